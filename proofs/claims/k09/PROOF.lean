import PyProof.Rows.All
import Wide.All
import OpenK.AllK
import Wide.FinOn
import HandS.ForMost
import HandS.Walk
import HandS.IsInst
import KE.SortData
import KE.KDictCopyH
import KE.KDictSum
import KE.KDictKeyed
import KE.KDictDisplayH
import KE.KDictItemsList
import KE.KDictPairs
import HandS.More
import HandS.DictTup
import HandS.DictComp
import HandS.ListEq
import HandS.TupAny
import HandS.OwnEq
import HandS.Style
import HandS.Defaults
import HandS.Wide
import KE.GoesMore
import PyProof.EnumMake
import HandS.Zip
import HandS.TupMul
import HandS.Conv
import PyProof.NeKinds
import KE.KExcSuper
import KE.KExcIs
import HandS.Base
import HandS.Call
import HandS.List
import HandS.Words
import HandS.Exc
import HandS.ExcInit
import HandS.ExcField
import HandS.Nested
import HandS.ExcValue
import HandS.ExcIs
import HandS.DeepEq
import HandS.SetFor
import KE.KEqNest
import HandS.ExcOwn
import HandS.WordsExc
import PyProof.MinMaxWalk
import HandS.HeadHook1
import HandS.HeadHook2
import HandS.HeadHook3
import HandS.Head0
import HandS.Head1
import HandS.Head2
import HandS.HeadEnd
import Lean
import PySem.Challenge.RW_boxedroots_k09_systems_refused
set_option Elab.async false
set_option linter.all false
set_option maxRecDepth 100000
/-! BXa: what stands in slots, told by relations that stay; readings over them (my own layer over HandS). -/
namespace BX
open PySem PySem.Spec PyProof.Rows L2

/-! ### the heap's growth -/
theorem Same.new {H : Hp} {p : Addr} {o : HO} (h : H p = none) : Same H (upd H p o) := fun b u e => by
  rw [upd_ne (ne_of_none e h)]; exact e
theorem Same.put {H H' : Hp} {p : Addr} {o : HO} (e : Same H H') (h : H p = none) : Same H (upd H' p o) := fun b u q => by
  rw [upd_ne (ne_of_none q h)]; exact e b u q

/-- the entries of a dict with keys that are tuples: key, the key's own tuple's address, value -/
abbrev DEnt := List Key × Addr × V
section
variable (P : Program) (w : World)
def dxφ (a : Addr) (ks : List DEnt) (h : Heap) : Prop :=
  ks.length ≤ sizeLine ∧ (a == sysModules) = false ∧ ∃ xs : List (List Key × Addr × Value),
    Paired (fun (p : DEnt) (q : List Key × Addr × Value) => p.1 = q.1 ∧ p.2.1 = q.2.1 ∧ RelV p.2.2 q.2.2) ks xs ∧
    ∃ o es ep, h.get? a = some o ∧ o.ExactDict ∧ o.data = .dict es ep ∧ es.toList = xs.map (entryOfKey (tupleKind (mixKind P w))) ∧ (xs.map (·.1)).Nodup
/-- such a dict at a -/
def DXO (a : Addr) (ks : List DEnt) : HO := .ext (dxφ P w a ks)
end
/-- what may change -/
def Chg (o : HO) : Prop := (∃ xs, o = .lst xs) ∨ (∃ k, o = .dK k) ∨ (∃ k, o = .dT k) ∨ (∃ P w a ks, o = DXO P w a ks)
/-- what does not change stays -/
def Im (H H' : Hp) : Prop := ∀ a o, ¬ Chg o → H a = some o → H' a = some o
theorem Im.refl (H : Hp) : Im H H := fun _ _ _ h => h
theorem Im.trans {H H1 H2 : Hp} (a : Im H H1) (b : Im H1 H2) : Im H H2 := fun x o n h => b x o n (a x o n h)
theorem Same.im {H H' : Hp} (e : Same H H') : Im H H' := fun a o _ h => e a o h
theorem Im.upd {H : Hp} {l : Addr} {o o' : HO} (h : H l = some o) (c : Chg o) : Im H (upd H l o') := fun a u n e => by
  rw [upd_ne (fun z => by rw [z, h] at e; cases e; exact n c)]; exact e
theorem tup_nc {xs : List V} : ¬ Chg (.tup xs) := by
  rintro (⟨_, h⟩ | ⟨_, h⟩ | ⟨_, h⟩ | ⟨_, _, _, _, h⟩) <;> cases h
theorem frz_nc {o : Obj} {u : HO} : ¬ Chg (.frz o u) := by
  rintro (⟨_, h⟩ | ⟨_, h⟩ | ⟨_, h⟩ | ⟨_, _, _, _, h⟩) <;> cases h
theorem ins_nc {C dx : Addr} {fs : List (Str × V)} : ¬ Chg (.ins C dx fs) := by
  rintro (⟨_, h⟩ | ⟨_, h⟩ | ⟨_, h⟩ | ⟨_, _, _, _, h⟩) <;> cases h
theorem lst_c {xs : List V} : Chg (.lst xs) := .inl ⟨xs, rfl⟩
theorem dk_c {xs : List (Key × V)} : Chg (.dK xs) := .inr (.inl ⟨xs, rfl⟩)
theorem dx_c {P : Program} {w : World} {a : Addr} {ks : List DEnt} : Chg (DXO P w a ks) := .inr (.inr (.inr ⟨P, w, a, ks, rfl⟩))

/-! ### relations that stay -/
structure Rel where
  p : V → Hp → Prop
  st : ∀ {v : V} {H H' : Hp}, Im H H' → p v H → p v H'
abbrev Al (H : Hp) : List Rel → List V → Prop := Paired fun r v => r.p v H
theorem Al.st {H H' : Hp} (e : Im H H') : ∀ {rs : List Rel} {vs : List V}, Al H rs vs → Al H' rs vs
  | _, _, .nil => .nil
  | _, _, .cons h t => .cons (Rel.st _ e h) (Al.st e t)
theorem Al.get {H : Hp} : ∀ {rs : List Rel} {vs : List V} {i : Nat} {v : V}, Al H rs vs → vs[i]? = some v → ∃ r, rs[i]? = some r ∧ r.p v H
  | _, _, _, _, .nil, e => by simp at e
  | _, _, 0, _, .cons h _, e => by
    simp at e
    subst e
    exact ⟨_, rfl, h⟩
  | _, _, i + 1, v, .cons _ t, e => by
    obtain ⟨r, h1, h2⟩ := Al.get (i := i) t (by simpa using e)
    exact ⟨r, by simpa using h1, h2⟩
theorem Al.get' {H : Hp} {rs : List Rel} {vs : List V} {i : Nat} {r : Rel} (h : Al H rs vs) (e : rs[i]? = some r) : ∃ v, vs[i]? = some v ∧ r.p v H := by
  have hl : i < rs.length := (List.getElem?_eq_some_iff.mp e).1
  have hl2 : i < vs.length := by rw [← Paired.length h]; exact hl
  obtain ⟨r', h1, h2⟩ := Al.get h (List.getElem?_eq_getElem hl2)
  rw [e] at h1
  cases h1
  exact ⟨_, List.getElem?_eq_getElem hl2, h2⟩

def rC (c : V) : Rel := ⟨fun v _ => v = c, fun _ h => h⟩
abbrev rInt (i : Int) : Rel := rC (.int i)
abbrev rBl (b : Bool) : Rel := rC (.bl b)
abbrev rStr (s : Str) : Rel := rC (.str s)
abbrev rNon : Rel := rC .non
theorem sqT_im {K : PySem.W.Frag} {H H' : Hp} {a : Addr} {xs : List V} (e : Im H H') (h : SqT K H a xs) : SqT K H' a xs := by
  rcases h with (h | ⟨o, h⟩) | h
  · exact .inl (.inl (e _ _ tup_nc h))
  · exact .inl (.inr ⟨o, e _ _ frz_nc h⟩)
  · exact .inr h
/-- a tuple -/
def rTup (K : PySem.W.Frag) (rs : List Rel) : Rel := ⟨fun v H => ∃ a xs, v = .ref a ∧ SqT K H a xs ∧ Al H rs xs, fun e ⟨a, xs, h1, h2, h3⟩ => ⟨a, xs, h1, sqT_im e h2, h3.st e⟩⟩
/-- a list that is not changed any more -/
def rLst (rs : List Rel) : Rel := ⟨fun v H => ∃ a o xs, v = .ref a ∧ H a = some (.frz o (.lst xs)) ∧ Al H rs xs, fun e ⟨a, o, xs, h1, h2, h3⟩ => ⟨a, o, xs, h1, e _ _ frz_nc h2, h3.st e⟩⟩
/-- a dict by ints and texts that is not changed any more -/
def rDic (kvs : List (Key × Rel)) : Rel := ⟨fun v H => ∃ a o xs, v = .ref a ∧ H a = some (.frz o (.dK xs)) ∧ Paired (fun (p : Key × Rel) (q : Key × V) => p.1 = q.1 ∧ p.2.p q.2 H) kvs xs,
  fun e ⟨a, o, xs, h1, h2, h3⟩ => ⟨a, o, xs, h1, e _ _ frz_nc h2, Paired.mapP h3 fun _ _ ⟨z1, z2⟩ => ⟨z1, Rel.st _ e z2⟩⟩⟩
/-- the entries of a dict with keys that are tuples, by relations -/
def ik (k : List Int) : List Key := k.map Sum.inl
theorem ik_kV (k : List Int) : (ik k).map kV = k.map V.int := by
  unfold ik
  rw [List.map_map]
  rfl
theorem ik_inj {a b : List Int} (h : ik a = ik b) : a = b := by
  have e : (ik a).map kV = (ik b).map kV := by rw [h]
  rw [ik_kV, ik_kV] at e
  exact (List.map_inj_right (fun x y z => by injection z)).mp e
abbrev AlX (K : PySem.W.Frag) (H : Hp) : List (List Int × Rel) → List DEnt → Prop :=
  Paired fun p q => ik p.1 = q.1 ∧ SqT K H q.2.1 (p.1.map V.int) ∧ p.2.p q.2.2 H
theorem AlX.st {K : PySem.W.Frag} {H H' : Hp} (e : Im H H') {ks : List (List Int × Rel)} {es : List DEnt} (h : AlX K H ks es) : AlX K H' ks es :=
  Paired.mapP h fun _ _ ⟨z1, z2, z3⟩ => ⟨z1, sqT_im e z2, Rel.st _ e z3⟩
def rDct (P : Program) (w : World) (K : PySem.W.Frag) (ks : List (List Int × Rel)) : Rel := ⟨fun v H => ∃ a o es, v = .ref a ∧ H a = some (.frz o (DXO P w a es)) ∧ AlX K H ks es,
  fun e ⟨a, o, es, h1, h2, h3⟩ => ⟨a, o, es, h1, e _ _ frz_nc h2, h3.st e⟩⟩
/-- an object of the class at C whose attributes are these -/
def rIns (C : Addr) (fs : List (Str × Rel)) : Rel := ⟨fun v H => ∃ a dx xs, v = .ref a ∧ H a = some (.ins C dx xs) ∧ Paired (fun (p : Str × Rel) (q : Str × V) => p.1 = q.1 ∧ p.2.p q.2 H) fs xs,
  fun e ⟨a, dx, xs, h1, h2, h3⟩ => ⟨a, dx, xs, h1, e _ _ ins_nc h2, Paired.mapP h3 fun _ _ ⟨z1, z2⟩ => ⟨z1, Rel.st _ e z2⟩⟩⟩

/-! ### what a slot holds -/
inductive Ty where
  | no
  | im (r : Rel)
  | ml (rs : List Rel)
  | mx (ks : List (List Int × Rel))
abbrev Ctx := List Ty
/-- the fixed things of a body: the text, the world, the written part, the heap at the entry -/
structure Bd where
  P : Program
  w : World
  K : PySem.W.Frag
  H0 : Hp
  /-- what else is known of the heap, and stays -/
  fx : Hp → Prop := fun _ => True
  fs : ∀ H H', Im H H' → fx H → fx H' := by exact fun _ _ _ _ => trivial
/-- one thing more is known -/
abbrev Bd.more (B : Bd) (G : Hp → Prop) (st : ∀ H H', Im H H' → G H → G H') : Bd := ⟨B.P, B.w, B.K, B.H0, fun H => B.fx H ∧ G H, fun H H' e h => ⟨B.fs H H' e h.1, st H H' e h.2⟩⟩
def TyOk (B : Bd) (H : Hp) : Ty → Option V → Prop
  | .no, _ => True
  | .im r, ov => ∃ v, ov = some v ∧ r.p v H
  | .ml rs, ov => ∃ l xs, ov = some (.ref l) ∧ B.H0 l = none ∧ H l = some (.lst xs) ∧ Al H rs xs
  | .mx ks, ov => ∃ l es, ov = some (.ref l) ∧ B.H0 l = none ∧ H l = some (DXO B.P B.w l es) ∧ AlX B.K H ks es
def Ty.mut : Ty → Bool
  | .ml _ => true
  | .mx _ => true
  | _ => false
structure Env (B : Bd) (Γ : Ctx) (σ : L2.St) (H : Hp) : Prop where
  len : σ.length = Γ.length
  ex : Same B.H0 H
  fx : B.fx H
  ty : ∀ (i : Nat) t, Γ[i]? = some t → ∃ ov, σ[i]? = some ov ∧ TyOk B H t ov
  dis : ∀ (i j : Nat) (t u : Ty) (l : Addr), i ≠ j → Γ[i]? = some t → Γ[j]? = some u → t.mut = true → u.mut = true → σ[i]? = some (some (V.ref l)) → σ[j]? = some (some (V.ref l)) → False

section
variable {B : Bd} {Γ : Ctx} {σ : L2.St} {H H' : Hp}
theorem TyOk.ex {t : Ty} {ov : Option V} (e : Same H H') (h : TyOk B H t ov) : TyOk B H' t ov := by
  cases t with
  | no => trivial
  | im r => obtain ⟨v, h1, h2⟩ := h; exact ⟨v, h1, r.st (Same.im e) h2⟩
  | ml rs => obtain ⟨l, xs, h1, h2, h3, h4⟩ := h; exact ⟨l, xs, h1, h2, e _ _ h3, h4.st (Same.im e)⟩
  | mx ks => obtain ⟨l, es, h1, h2, h3, h4⟩ := h; exact ⟨l, es, h1, h2, e _ _ h3, h4.st (Same.im e)⟩
theorem Env.mono (E : Env B Γ σ H) (e : Same H H') : Env B Γ σ H' :=
  ⟨E.len, Same.trans E.ex e, B.fs _ _ (Same.im e) E.fx, fun i t h => let ⟨ov, h1, h2⟩ := E.ty i t h; ⟨ov, h1, h2.ex e⟩, E.dis⟩
theorem Env.im_at (E : Env B Γ σ H) {i : Nat} {r : Rel} (h : Γ[i]? = some (.im r)) : ∃ v, σ[i]? = some (some v) ∧ r.p v H := by
  obtain ⟨ov, h1, v, h2, h3⟩ := E.ty i _ h
  subst h2
  exact ⟨v, h1, h3⟩
/-- a slot gets a thing that stays -/
theorem Env.set (E : Env B Γ σ H) (i : Nat) {r : Rel} {v : V} (h : r.p v H) : Env B (Γ.set i (.im r)) (σ.set i (some v)) H := by
  refine ⟨by rw [List.length_set, List.length_set]; exact E.len, E.ex, E.fx, fun j t e => ?_, fun j k t u l hjk e1 e2 m1 m2 q1 q2 => ?_⟩
  · by_cases hj : i = j
    · subst hj
      have hl : i < Γ.length := by
        rcases Nat.lt_or_ge i Γ.length with hl | hl
        · exact hl
        · rw [List.getElem?_eq_none (by rw [List.length_set]; exact hl)] at e; cases e
      rw [List.getElem?_set_self hl] at e
      cases e
      refine ⟨some v, List.getElem?_set_self (by rw [E.len]; exact hl), v, rfl, h⟩
    · rw [List.getElem?_set_ne hj] at e
      rw [List.getElem?_set_ne hj]
      exact E.ty j t e
  · have nj : i ≠ j := fun z => by
      subst z
      have hl : i < Γ.length := by
        rcases Nat.lt_or_ge i Γ.length with hl | hl
        · exact hl
        · rw [List.getElem?_eq_none (by rw [List.length_set]; exact hl)] at e1; cases e1
      rw [List.getElem?_set_self hl] at e1
      cases e1
      cases m1
    have nk : i ≠ k := fun z => by
      subst z
      have hl : i < Γ.length := by
        rcases Nat.lt_or_ge i Γ.length with hl | hl
        · exact hl
        · rw [List.getElem?_eq_none (by rw [List.length_set]; exact hl)] at e2; cases e2
      rw [List.getElem?_set_self hl] at e2
      cases e2
      cases m2
    rw [List.getElem?_set_ne nj] at e1 q1
    rw [List.getElem?_set_ne nk] at e2 q2
    exact E.dis j k t u l hjk e1 e2 m1 m2 q1 q2
theorem set_at {α : Type} {l : List α} {i : Nat} {x y : α} (h : (l.set i x)[i]? = some y) : i < l.length ∧ y = x := by
  rcases Nat.lt_or_ge i l.length with hl | hl
  · rw [List.getElem?_set_self hl] at h
    exact ⟨hl, (Option.some.inj h).symm⟩
  · rw [List.getElem?_eq_none (by rw [List.length_set]; exact hl)] at h
    cases h
/-- a slot gets a new thing that may change -/
theorem Env.setM (E : Env B Γ σ H) (i : Nat) {t : Ty} {l : Addr} (e : Same H H') (hn : H l = none) (h : TyOk B H' t (some (.ref l))) : Env B (Γ.set i t) (σ.set i (some (.ref l))) H' := by
  have old : ∀ (j : Nat) (u : Ty), Γ[j]? = some u → u.mut = true → σ[j]? = some (some (V.ref l)) → False := fun j u h1 h2 h3 => by
    obtain ⟨ov', q1, q2⟩ := E.ty j u h1
    rw [h3] at q1
    cases q1
    cases u with
    | ml rs =>
      obtain ⟨l', xs, z1, _, z3, _⟩ := q2
      cases z1
      rw [hn] at z3
      cases z3
    | mx ks =>
      obtain ⟨l', xs, z1, _, z3, _⟩ := q2
      cases z1
      rw [hn] at z3
      cases z3
    | _ => cases h2
  refine ⟨by rw [List.length_set, List.length_set]; exact E.len, Same.trans E.ex e, B.fs _ _ (Same.im e) E.fx, fun j u q => ?_, fun j k u v l' hjk e1 e2 m1 m2 q1 q2 => ?_⟩
  · by_cases hj : i = j
    · subst hj
      obtain ⟨hl, rfl⟩ := set_at q
      exact ⟨_, List.getElem?_set_self (by rw [E.len]; exact hl), h⟩
    · rw [List.getElem?_set_ne hj] at q
      rw [List.getElem?_set_ne hj]
      obtain ⟨ov, h1, h2⟩ := E.ty j u q
      exact ⟨ov, h1, h2.ex e⟩
  · by_cases hj : i = j
    · subst hj
      have hk : i ≠ k := hjk
      obtain ⟨hl, rfl⟩ := set_at e1
      rw [List.getElem?_set_self (by rw [E.len]; exact hl)] at q1
      cases q1
      rw [List.getElem?_set_ne hk] at e2 q2
      exact old k v e2 m2 q2
    · rw [List.getElem?_set_ne hj] at e1 q1
      by_cases hk : i = k
      · subst hk
        obtain ⟨hl, rfl⟩ := set_at e2
        rw [List.getElem?_set_self (by rw [E.len]; exact hl)] at q2
        cases q2
        exact old j u e1 m1 q1
      · rw [List.getElem?_set_ne hk] at e2 q2
        exact E.dis j k u v l' hjk e1 e2 m1 m2 q1 q2
/-- a thing in a slot is changed -/
theorem Env.chg (E : Env B Γ σ H) {i : Nat} {t t' : Ty} {l : Addr} {o o' : HO} (hi : Γ[i]? = some t) (hm : t.mut = true) (hs : σ[i]? = some (some (.ref l))) (ho : H l = some o) (hc : Chg o) (h0 : B.H0 l = none)
    (h : TyOk B (upd H l o') t' (some (.ref l))) : Env B (Γ.set i t') σ (upd H l o') := by
  have im : Im H (upd H l o') := Im.upd ho hc
  have other : ∀ (j : Nat) (u : Ty) (ov : Option V), i ≠ j → Γ[j]? = some u → σ[j]? = some ov → TyOk B H u ov → TyOk B (upd H l o') u ov := fun j u ov hj h1 h2 h3 => by
    cases u with
    | no => trivial
    | im r => obtain ⟨v, z1, z2⟩ := h3; exact ⟨v, z1, r.st im z2⟩
    | ml rs =>
      obtain ⟨l', xs, z1, z2, z3, z4⟩ := h3
      refine ⟨l', xs, z1, z2, ?_, z4.st im⟩
      rw [upd_ne (fun z => by subst z; subst z1; exact E.dis i j t _ l' hj hi h1 hm rfl hs h2)]
      exact z3
    | mx rs =>
      obtain ⟨l', xs, z1, z2, z3, z4⟩ := h3
      refine ⟨l', xs, z1, z2, ?_, z4.st im⟩
      rw [upd_ne (fun z => by subst z; subst z1; exact E.dis i j t _ l' hj hi h1 hm rfl hs h2)]
      exact z3
  refine ⟨by rw [List.length_set]; exact E.len, Same.put E.ex h0, B.fs _ _ im E.fx, fun j u q => ?_, fun j k u v l' hjk e1 e2 m1 m2 q1 q2 => ?_⟩
  · by_cases hj : i = j
    · subst hj
      obtain ⟨hl, rfl⟩ := set_at q
      exact ⟨_, hs, h⟩
    · rw [List.getElem?_set_ne hj] at q
      obtain ⟨ov, h1, h2⟩ := E.ty j u q
      exact ⟨ov, h1, other j u ov hj q h1 h2⟩
  · by_cases hj : i = j
    · subst hj
      have hk : i ≠ k := hjk
      rw [List.getElem?_set_ne hk] at e2
      exact E.dis i k t v l' hjk hi e2 hm m2 q1 q2
    · rw [List.getElem?_set_ne hj] at e1
      by_cases hk : i = k
      · subst hk
        exact E.dis j i u t l' hjk e1 hi m1 hm q1 q2
      · rw [List.getElem?_set_ne hk] at e2
        exact E.dis j k u v l' hjk e1 e2 m1 m2 q1 q2
theorem Env.weak {Γ' : Ctx} (E : Env B Γ σ H) (hl : Γ'.length = Γ.length) (h : ∀ (i : Nat) t', Γ'[i]? = some t' → t' = .no ∨ Γ[i]? = some t') : Env B Γ' σ H := by
  refine ⟨by rw [hl]; exact E.len, E.ex, E.fx, fun i t q => ?_, fun j k u v l' hjk e1 e2 m1 m2 q1 q2 => ?_⟩
  · rcases h i t q with z | z
    · subst z
      have hi : i < σ.length := by rw [E.len, ← hl]; exact (List.getElem?_eq_some_iff.mp q).1
      exact ⟨σ[i], List.getElem?_eq_getElem hi, trivial⟩
    · exact E.ty i t z
  · rcases h j u e1 with z | z
    · subst z; cases m1
    · rcases h k v e2 with y | y
      · subst y; cases m2
      · exact E.dis j k u v l' hjk z y m1 m2 q1 q2
/-- less is told -/
inductive Weak : Ctx → Ctx → Prop
  | nil : Weak [] []
  | no {t : Ty} {l l' : Ctx} : Weak l l' → Weak (t :: l) (.no :: l')
  | eq {t : Ty} {l l' : Ctx} : Weak l l' → Weak (t :: l) (t :: l')
theorem Weak.len : ∀ {a b : Ctx}, Weak a b → b.length = a.length
  | _, _, .nil => rfl
  | _, _, .no h => congrArg Nat.succ h.len
  | _, _, .eq h => congrArg Nat.succ h.len
theorem Weak.at : ∀ {a b : Ctx}, Weak a b → ∀ (i : Nat) t', b[i]? = some t' → t' = .no ∨ a[i]? = some t'
  | _, _, .nil, i, t', h => by simp at h
  | _, _, .no h, 0, t', e => by simp at e; exact .inl e.symm
  | _, _, .eq h, 0, t', e => by simp at e; subst e; exact .inr rfl
  | _, _, .no h, i + 1, t', e => h.at i t' (by simpa using e)
  | _, _, .eq h, i + 1, t', e => h.at i t' (by simpa using e)
theorem Env.wk {Γ' : Ctx} (E : Env B Γ σ H) (h : Weak Γ Γ') : Env B Γ' σ H := E.weak h.len h.at
theorem Weak.refl : ∀ (a : Ctx), Weak a a
  | [] => .nil
  | t :: l => .eq (Weak.refl l)
/-- the block's own names are not known within it -/
def wipeC (Γ : Ctx) : List Nat → Ctx
  | [] => Γ
  | v :: vs => (wipeC Γ vs).set v .no
theorem Env.setNo (E : Env B Γ σ H) (i : Nat) : Env B (Γ.set i .no) (σ.set i none) H := by
  refine ⟨by rw [List.length_set, List.length_set]; exact E.len, E.ex, E.fx, fun j t e => ?_, fun j k t u l hjk e1 e2 m1 m2 q1 q2 => ?_⟩
  · by_cases hj : i = j
    · subst hj
      obtain ⟨hl, rfl⟩ := set_at e
      exact ⟨none, List.getElem?_set_self (by rw [E.len]; exact hl), trivial⟩
    · rw [List.getElem?_set_ne hj] at e
      rw [List.getElem?_set_ne hj]
      exact E.ty j t e
  · have nj : i ≠ j := fun z => by
      subst z
      obtain ⟨_, rfl⟩ := set_at e1
      cases m1
    have nk : i ≠ k := fun z => by
      subst z
      obtain ⟨_, rfl⟩ := set_at e2
      cases m2
    rw [List.getElem?_set_ne nj] at e1 q1
    rw [List.getElem?_set_ne nk] at e2 q2
    exact E.dis j k t u l hjk e1 e2 m1 m2 q1 q2
theorem Env.wipe (E : Env B Γ σ H) : ∀ vs : List Nat, Env B (wipeC Γ vs) (L2.wipe σ vs) H
  | [] => E
  | v :: vs => (E.wipe vs).setNo v
theorem Env.more {G : Hp → Prop} {st : ∀ H H', Im H H' → G H → G H'} (E : Env B Γ σ H) (h : G H) : Env (B.more G st) Γ σ H :=
  ⟨E.len, E.ex, ⟨E.fx, h⟩, fun i t e => let ⟨ov, h1, h2⟩ := E.ty i t e; ⟨ov, h1, by cases t <;> exact h2⟩, E.dis⟩
theorem Env.less {G : Hp → Prop} {st : ∀ H H', Im H H' → G H → G H'} (E : Env (B.more G st) Γ σ H) : Env B Γ σ H :=
  ⟨E.len, E.ex, E.fx.1, fun i t e => let ⟨ov, h1, h2⟩ := E.ty i t e; ⟨ov, h1, by cases t <;> exact h2⟩, E.dis⟩
theorem wipe_of {σ σ' : L2.St} : ∀ {vs : List Nat}, σ'.length = σ.length → (∀ i, i ∉ vs → σ'[i]? = σ[i]?) → L2.wipe σ' vs = L2.wipe σ vs := by
  intro vs hl h
  have key : ∀ (τ : L2.St) (vs : List Nat) (i : Nat), (L2.wipe τ vs)[i]? = if i ∈ vs then (if i < τ.length then some none else none) else τ[i]? := by
    intro τ vs i
    induction vs with
    | nil => simp [L2.wipe]
    | cons v vs ih =>
      unfold L2.wipe
      by_cases hv : v = i
      · subst hv
        by_cases hi : v < τ.length
        · rw [List.getElem?_set_self (by rw [wipe_length]; exact hi)]
          simp [hi]
        · rw [List.getElem?_eq_none (by rw [List.length_set, wipe_length]; omega)]
          simp [hi]
      · rw [List.getElem?_set_ne hv, ih]
        have e : (i ∈ v :: vs) ↔ (i ∈ vs) := by
          simp only [List.mem_cons]
          exact ⟨fun z => z.elim (fun q => absurd q.symm hv) id, .inr⟩
        simp only [e]
  apply List.ext_getElem?
  intro i
  rw [key, key, hl]
  by_cases hi : i ∈ vs
  · rw [if_pos hi, if_pos hi]
  · rw [if_neg hi, if_neg hi]
    exact h i hi
end
end BX
set_option Elab.async false
set_option linter.all false
set_option maxRecDepth 100000
/-! BXb: readings over told slots: expressions, tests, calls, statements, loops, comprehensions. -/
namespace BX
open PySem PySem.Spec PyProof.Rows L2

def WpE (B : Bd) (Γ : Ctx) (te : TE) (k : Rel → Prop) : Prop :=
  ∀ σ H, Env B Γ σ H → ∀ Q : VK, (∀ r v H', k r → r.p v H' → Same H H' → Q v H') → te σ H Q
/-- a new list -/
def WpL (B : Bd) (Γ : Ctx) (te : TE) (k : List Rel → Prop) : Prop :=
  ∀ σ H, Env B Γ σ H → ∀ Q : VK, (∀ rs p xs H', k rs → H p = none → Same H H' → H' p = some (.lst xs) → Al H' rs xs → Q (.ref p) H') → te σ H Q
/-- a new dict with tuples as keys -/
def WpX (B : Bd) (Γ : Ctx) (te : TE) (k : List (List Int × Rel) → Prop) : Prop :=
  ∀ σ H, Env B Γ σ H → ∀ Q : VK, (∀ ks p es H', k ks → H p = none → Same H H' → H' p = some (DXO B.P B.w p es) → AlX B.K H' ks es → Q (.ref p) H') → te σ H Q
/-- a new dict with texts and ints as keys -/
def WpD (B : Bd) (Γ : Ctx) (te : TE) (k : List (Key × Rel) → Prop) : Prop :=
  ∀ σ H, Env B Γ σ H → ∀ Q : VK, (∀ ks p es H', k ks → H p = none → Same H H' → H' p = some (.dK es) → Paired (fun (p : Key × Rel) (q : Key × V) => p.1 = q.1 ∧ p.2.p q.2 H') ks es → Q (.ref p) H') → te σ H Q
def WpT (B : Bd) (Γ : Ctx) (tt : TT) (k : Bool → Prop) : Prop :=
  ∀ σ H, Env B Γ σ H → ∀ Q : Bool → Hp → Prop, (∀ b H', k b → Same H H' → Q b H') → tt σ H Q
def WpA (B : Bd) (Γ : Ctx) (ta : TA) (k : List Rel → Prop) : Prop :=
  ∀ σ H, Env B Γ σ H → ∀ Q : List V → Hp → Prop, (∀ rs vs H', k rs → Al H' rs vs → Same H H' → Q vs H') → ta σ H Q
def WpO (B : Bd) (Γ : Ctx) (to : TO) (k : Option Int → Prop) : Prop :=
  ∀ σ H, Env B Γ σ H → ∀ Q : Option Int → Hp → Prop, (∀ o H', k o → Same H H' → Q o H') → to σ H Q
/-- statements -/
def WpS (B : Bd) (D : Ends) (Γ : Ctx) (t : TS) : Prop := ∀ σ H, Env B Γ σ H → t D σ H
/-- what a two-place operation gives -/
def OpT (B : Bd) (r : R2) (ra rb : Rel) (k : Rel → Prop) : Prop :=
  ∀ H x y, Same B.H0 H → ra.p x H → rb.p y H → ∀ Q : VK, (∀ rr v H', k rr → rr.p v H' → Same H H' → Q v H') → r x y H Q
def UnT (B : Bd) (r : V → Hp → VK → Prop) (ra : Rel) (k : Rel → Prop) : Prop :=
  ∀ H x, Same B.H0 H → ra.p x H → ∀ Q : VK, (∀ rr v H', k rr → rr.p v H' → Same H H' → Q v H') → r x H Q
/-- what a call of a thing of Python's own gives -/
def CaT (B : Bd) (r : List V → Hp → VK → Prop) (rs : List Rel) (k : Rel → Prop) : Prop :=
  ∀ H vs, Same B.H0 H → Al H rs vs → ∀ Q : VK, (∀ rr v H', k rr → rr.p v H' → Same H H' → Q v H') → r vs H Q

section
variable {B : Bd} {Γ : Ctx} {ta tb tc te : TE} {t u : TT} {k : Rel → Prop} {kb : Bool → Prop} {D : Ends}

/-! ### expressions -/
theorem we_var {i : Nat} {r : Rel} (h : Γ[i]? = some (.im r)) (q : k r) : WpE B Γ (tVar i) k := fun σ H E Q hQ => by
  obtain ⟨v, h1, h2⟩ := E.im_at h
  exact ⟨v, h1, hQ r v H q h2 (Same.refl H)⟩
theorem we_c {v : V} (q : k (rC v)) : WpE B Γ (tC v) k := fun σ H E Q hQ => hQ _ v H q rfl (Same.refl H)
theorem we_cr {v : V} (r : Rel) (hr : ∀ H, Same B.H0 H → r.p v H) (q : k r) : WpE B Γ (tC v) k := fun σ H E Q hQ => hQ _ v H q (hr H E.ex) (Same.refl H)
theorem we_mono {k' : Rel → Prop} (h : WpE B Γ te k) (m : ∀ r, k r → k' r) : WpE B Γ te k' := fun σ H E Q hQ => h σ H E Q fun r v H' q => hQ r v H' (m r q)
theorem we_op {r : R2} (h : WpE B Γ ta fun ra => WpE B Γ tb fun rb => OpT B r ra rb k) : WpE B Γ (tOp r ta tb) k := fun σ H E Q hQ =>
  h σ H E _ fun ra x H1 h1 p1 e1 => h1 σ H1 (E.mono e1) _ fun rb y H2 h2 p2 e2 =>
    h2 H2 x y (Same.trans E.ex (Same.trans e1 e2)) (ra.st (Same.im e2) p1) p2 Q fun rr v H' q p e => hQ rr v H' q p (Same.trans e1 (Same.trans e2 e))
theorem we_un {r : V → Hp → VK → Prop} (h : WpE B Γ ta fun ra => UnT B r ra k) : WpE B Γ (tUn r ta) k := fun σ H E Q hQ =>
  h σ H E _ fun ra x H1 h1 p1 e1 => h1 H1 x (Same.trans E.ex e1) p1 Q fun rr v H' q p e => hQ rr v H' q p (Same.trans e1 e)
theorem we_cb {r : List V → Hp → VK → Prop} {tA : TA} (h : WpA B Γ tA fun rs => CaT B r rs k) : WpE B Γ (tCB r tA) k := fun σ H E Q hQ =>
  h σ H E _ fun rs vs H1 h1 p1 e1 => h1 H1 vs (Same.trans E.ex e1) p1 Q fun rr v H' q p e => hQ rr v H' q p (Same.trans e1 e)
theorem wa_nil {ka : List Rel → Prop} (q : ka []) : WpA B Γ tNil ka := fun σ H E Q hQ => hQ [] [] H q .nil (Same.refl H)
theorem wa_cons {tr : TA} {ka : List Rel → Prop} (h : WpE B Γ te fun r => WpA B Γ tr fun rs => ka (r :: rs)) : WpA B Γ (tCons te tr) ka := fun σ H E Q hQ =>
  h σ H E _ fun r v H1 h1 p1 e1 => h1 σ H1 (E.mono e1) _ fun rs vs H2 h2 p2 e2 => hQ (r :: rs) (v :: vs) H2 h2 (.cons (r.st (Same.im e2) p1) p2) (Same.trans e1 e2)
/-- a def's promise by relations -/
abbrev Spc := List Rel → (Rel → Prop) → Prop
def spOf (S : Spc) : Sp := fun vs H Q _ => ∃ rs k, Al H rs vs ∧ S rs k ∧ ∀ r v H', k r → r.p v H' → Same H H' → Q v H'
theorem we_call {S : Spc} {E0' : XK} {tA : TA} (h : WpA B Γ tA fun rs => S rs k) : WpE B Γ (tCall (spOf S) [] E0' tA) k := fun σ H E Q hQ =>
  h σ H E _ fun rs vs H1 h1 p1 e1 => by
    show spOf S (vs ++ []) H1 Q E0'
    rw [List.append_nil]
    exact ⟨rs, k, p1, h1, fun r v H' q p e => hQ r v H' q p (Same.trans e1 e)⟩
theorem we_if (h : WpT B Γ t fun b => (b = true → WpE B Γ ta k) ∧ (b = false → WpE B Γ tb k)) : WpE B Γ (tIf t ta tb) k := fun σ H E Q hQ =>
  h σ H E _ fun b H1 hb e1 => by
    cases b with
    | true => exact iteT (hb.1 rfl σ H1 (E.mono e1) Q fun r v H' q p e => hQ r v H' q p (Same.trans e1 e))
    | false => exact iteF (hb.2 rfl σ H1 (E.mono e1) Q fun r v H' q p e => hQ r v H' q p (Same.trans e1 e))
/-- truth values by and, or, not -/
theorem we_andV (h : WpE B Γ ta fun r => ∃ a, r = rBl a ∧ (a = true → WpE B Γ tb k) ∧ (a = false → k (rBl false))) : WpE B Γ (tAndV ta tb) k := fun σ H E Q hQ =>
  h σ H E _ fun r v H1 ⟨a, er, h1, h2⟩ p1 e1 => by
    subst er
    refine ⟨a, p1, ?_⟩
    cases a with
    | true => exact iteT (h1 rfl σ H1 (E.mono e1) Q fun r v H' q p e => hQ r v H' q p (Same.trans e1 e))
    | false => exact iteF (hQ _ _ H1 (h2 rfl) rfl e1)
theorem we_orV (h : WpE B Γ ta fun r => ∃ a, r = rBl a ∧ (a = true → k (rBl true)) ∧ (a = false → WpE B Γ tb k)) : WpE B Γ (tOrV ta tb) k := fun σ H E Q hQ =>
  h σ H E _ fun r v H1 ⟨a, er, h1, h2⟩ p1 e1 => by
    subst er
    refine ⟨a, p1, ?_⟩
    cases a with
    | true => exact iteT (hQ _ _ H1 (h1 rfl) rfl e1)
    | false => exact iteF (h2 rfl σ H1 (E.mono e1) Q fun r v H' q p e => hQ r v H' q p (Same.trans e1 e))
theorem we_notV (h : WpE B Γ ta fun r => ∃ a, r = rBl a ∧ k (rBl (!a))) : WpE B Γ (tNotV ta) k := fun σ H E Q hQ =>
  h σ H E _ fun r v H1 ⟨a, er, h1⟩ p1 e1 => by
    subst er
    exact ⟨a, p1, hQ _ _ H1 h1 rfl e1⟩
theorem we_tup {tA : TA} (h : WpA B Γ tA fun rs => rs.length ≤ sizeLine ∧ k (rTup B.K rs)) : WpE B Γ (tTup tA) k := fun σ H E Q hQ =>
  h σ H E _ fun rs vs H1 ⟨hl, hk⟩ p1 e1 => ⟨by rw [← Paired.length p1]; exact hl, fun p hp => hQ _ _ _ hk ⟨p, vs, rfl, .inl (.inl upd_same), p1.st (Same.im (Same.new hp))⟩ (Same.trans e1 (Same.new hp))⟩
theorem wl_lst {tA : TA} {kl : List Rel → Prop} (h : WpA B Γ tA fun rs => rs.length ≤ sizeLine ∧ kl rs) : WpL B Γ (tLst tA) kl := fun σ H E Q hQ =>
  h σ H E _ fun rs vs H1 ⟨hl, hk⟩ p1 e1 => ⟨by rw [← Paired.length p1]; exact hl, fun p hp => hQ rs p vs _ hk (Same.free e1 hp) (Same.trans e1 (Same.new hp)) upd_same (p1.st (Same.im (Same.new hp)))⟩
/-- an object's attribute -/
theorem we_fld {f : Str} (h : WpE B Γ ta fun r => ∃ C fs rf, r = rIns C fs ∧ Cls B.K C ∧ NoAttr B.K C f ∧ fs.lookup f = some rf ∧ k rf) : WpE B Γ (tFld B.K ta f) k := fun σ H E Q hQ =>
  h σ H E _ fun r v H1 ⟨C, fs, rf, er, c, na, hl, hk⟩ p1 e1 => by
    subst er
    obtain ⟨a, dx, xs, rfl, ha, hp⟩ := p1
    have key : ∀ {fs : List (Str × Rel)} {xs : List (Str × V)}, Paired (fun (p : Str × Rel) (q : Str × V) => p.1 = q.1 ∧ p.2.p q.2 H1) fs xs → fs.lookup f = some rf → ∃ v, xs.lookup f = some v ∧ rf.p v H1 := by
      intro fs xs hp
      induction hp with
      | nil => intro e; cases e
      | @cons p q l1 l2 h t ih =>
        intro e
        obtain ⟨n, r⟩ := p
        obtain ⟨m, v⟩ := q
        obtain ⟨e1, e2⟩ := h
        subst e1
        by_cases c : f = n
        · subst c
          simp [List.lookup] at e
          subst e
          exact ⟨v, by simp [List.lookup], e2⟩
        · have cb : (f == n) = false := by simpa using c
          simp only [List.lookup, cb] at e ⊢
          exact ih e
    obtain ⟨v, hv, pv⟩ := key hp hl
    exact ⟨a, C, dx, xs, v, rfl, ha, c, na, hv, hQ _ _ _ hk pv e1⟩

/-! ### tests -/
theorem wt_test (h : WpE B Γ te fun r => ∃ b, r = rBl b ∧ kb b) : WpT B Γ (tTest te) kb := fun σ H E Q hQ =>
  h σ H E _ fun r v H1 ⟨b, er, hk⟩ p1 e1 => by
    subst er
    exact ⟨b, p1, hQ b H1 hk e1⟩
theorem wt_B (h : WpE B Γ te fun r => ∃ b, r = rBl b ∧ kb b) : WpT B Γ (tB te) kb := fun σ H E Q hQ =>
  h σ H E _ fun r v H1 ⟨b, er, hk⟩ p1 e1 => by
    subst er
    exact ⟨b, p1, hQ b H1 hk e1⟩
theorem wt_and (h : WpT B Γ t fun a => (a = true → WpT B Γ u kb) ∧ (a = false → kb false)) : WpT B Γ (tAnd t u) kb := fun σ H E Q hQ =>
  h σ H E _ fun a H1 hb e1 => by
    cases a with
    | true => exact iteT (hb.1 rfl σ H1 (E.mono e1) Q fun b H' q e => hQ b H' q (Same.trans e1 e))
    | false => exact iteF (hQ false H1 (hb.2 rfl) e1)
theorem wt_or (h : WpT B Γ t fun a => (a = true → kb true) ∧ (a = false → WpT B Γ u kb)) : WpT B Γ (tOr t u) kb := fun σ H E Q hQ =>
  h σ H E _ fun a H1 hb e1 => by
    cases a with
    | true => exact iteT (hQ true H1 (hb.1 rfl) e1)
    | false => exact iteF (hb.2 rfl σ H1 (E.mono e1) Q fun b H' q e => hQ b H' q (Same.trans e1 e))
theorem wt_not (h : WpT B Γ t fun a => kb (!a)) : WpT B Γ (tNot t) kb := fun σ H E Q hQ =>
  h σ H E _ fun a H1 hb e1 => hQ _ H1 hb e1
/-- the words of a chain of two comparisons -/
theorem we_chain {r r' : R2} (h : WpE B Γ ta fun ra => WpE B Γ tb fun rb => OpT B r ra rb fun rr => ∃ b, rr = rBl b ∧ (b = true → WpE B Γ tc fun rc => OpT B r' rb rc k) ∧ (b = false → k (rBl false))) : WpE B Γ (tChain r r' ta tb tc) k := fun σ H E Q hQ =>
  h σ H E _ fun ra x H1 h1 p1 e1 => h1 σ H1 (E.mono e1) _ fun rb y H2 h2 p2 e2 =>
    h2 H2 x y (Same.trans E.ex (Same.trans e1 e2)) (ra.st (Same.im e2) p1) p2 _ fun rr v H3 ⟨b, er, q1, q2⟩ p e => by
      subst er
      refine ⟨b, p, ?_⟩
      have e3 : Same H H3 := Same.trans e1 (Same.trans e2 e)
      cases b with
      | true => exact iteT (q1 rfl σ H3 (E.mono e3) _ fun rc z H4 h4 p4 e4 => h4 H4 y z (Same.trans E.ex (Same.trans e3 e4)) (rb.st (Same.im (Same.trans e e4)) p2) p4 Q fun r v H' q p e => hQ r v H' q p (Same.trans e3 (Same.trans e4 e)))
      | false => exact iteF (hQ _ _ H3 (q2 rfl) rfl e3)

/-! ### operations -/
theorem ot_I0 {g : Int → Int → V} {i j : Int} (q : k (rC (g i j))) : OpT B (rI0 g) (rInt i) (rInt j) k := fun H x y _ h1 h2 Q hQ => ⟨i, j, h1, h2, hQ _ _ H q rfl (Same.refl H)⟩
theorem ot_I {C : Int → Int → Prop} {g : Int → Int → V} {i j : Int} (c : C i j) (q : k (rC (g i j))) : OpT B (rI C g) (rInt i) (rInt j) k := fun H x y _ h1 h2 Q hQ => ⟨i, j, h1, h2, c, hQ _ _ H q rfl (Same.refl H)⟩
theorem ut_I {g : Int → V} {i : Int} (q : k (rC (g i))) : UnT B (rU g) (rInt i) k := fun H x _ h1 Q hQ => ⟨i, h1, hQ _ _ H q rfl (Same.refl H)⟩
theorem ot_eq {x y : V} (h : scal x y = true) (q : k (rBl (decide (x = y)))) : OpT B rEq (rC x) (rC y) k := fun H _ _ _ h1 h2 Q hQ => by
  cases h1
  cases h2
  exact ⟨h, hQ _ _ H q rfl (Same.refl H)⟩
theorem ot_ne {x y : V} (h : scal x y = true) (q : k (rBl (!decide (x = y)))) : OpT B rNe (rC x) (rC y) k := fun H _ _ _ h1 h2 Q hQ => by
  cases h1
  cases h2
  exact ⟨h, hQ _ _ H q rfl (Same.refl H)⟩
theorem ot_ixT {rs : List Rel} {i : Int} {r : Rel} (h : atI rs i = some r) (q : k r) : OpT B (rIxT B.K) (rTup B.K rs) (rInt i) k := fun H x y _ ⟨a, xs, ex, hs, hal⟩ h2 Q hQ => by
  subst ex
  cases h2
  have hl : xs.length = rs.length := (Paired.length hal).symm
  unfold atI at h
  obtain ⟨j, hj, hr⟩ := Option.bind_eq_some_iff.mp h
  obtain ⟨v, hv, pv⟩ := hal.get' hr
  refine ⟨a, xs, i, v, rfl, rfl, hs, ?_, hQ _ _ H q pv (Same.refl H)⟩
  unfold atI
  rw [hl, hj]
  exact hv
theorem ot_ixL {rs : List Rel} {i : Int} {r : Rel} (h : atI rs i = some r) (q : k r) : OpT B (rIxL B.K) (rLst rs) (rInt i) k := fun H x y _ ⟨a, o, xs, ex, hs, hal⟩ h2 Q hQ => by
  subst ex
  cases h2
  have hl : xs.length = rs.length := (Paired.length hal).symm
  unfold atI at h
  obtain ⟨j, hj, hr⟩ := Option.bind_eq_some_iff.mp h
  obtain ⟨v, hv, pv⟩ := hal.get' hr
  refine ⟨a, xs, i, v, rfl, rfl, .inl (.inr ⟨o, hs⟩), ?_, hQ _ _ H q pv (Same.refl H)⟩
  unfold atI
  rw [hl, hj]
  exact hv
/-- len -/
theorem ct_lenT {rs : List Rel} (q : k (rInt rs.length)) : CaT B (fun xs H Q => ∃ p ys, xs = [.ref p] ∧ (SqL B.K H p ys ∨ SqT B.K H p ys) ∧ Q (.int ys.length) H) [rTup B.K rs] k := fun H vs _ h Q hQ => by
  cases h with
  | cons h t =>
    cases t
    obtain ⟨a, xs, ex, hs, hal⟩ := h
    subst ex
    refine ⟨a, xs, rfl, .inr hs, ?_⟩
    rw [← Paired.length hal]
    exact hQ _ _ H q rfl (Same.refl H)
theorem ct_lenL {rs : List Rel} (q : k (rInt rs.length)) : CaT B (fun xs H Q => ∃ p ys, xs = [.ref p] ∧ (SqL B.K H p ys ∨ SqT B.K H p ys) ∧ Q (.int ys.length) H) [rLst rs] k := fun H vs _ h Q hQ => by
  cases h with
  | cons h t =>
    cases t
    obtain ⟨a, o, xs, ex, hs, hal⟩ := h
    subst ex
    refine ⟨a, xs, rfl, .inl (.inl (.inr ⟨o, hs⟩)), ?_⟩
    rw [← Paired.length hal]
    exact hQ _ _ H q rfl (Same.refl H)

/-! ### statements -/
theorem ws_ret {D : Ends} (h : WpE B Γ te fun r => ∀ v H', r.p v H' → Same B.H0 H' → D.rt v H') : WpS B D Γ (tRet te) := fun σ H E => h σ H E _ fun r v H' q p e => q v H' p (Same.trans E.ex e)
theorem ws_next {Γ' : Ctx} (h : ∀ σ H, Env B Γ σ H → D.nx σ H) : WpS B D Γ tNext := fun σ H E => h σ H E
theorem ws_asg {i : Nat} {tz : TS} (h : WpE B Γ te fun r => WpS B D (Γ.set i (.im r)) tz) : WpS B D Γ (tSeq (tAsg te (gName i)) tz) := fun σ H E =>
  h σ H E _ fun r v H' q p e => q _ _ ((E.mono e).set i p)
/-- the last statement of a block -/
theorem ws_asg1 {i : Nat} (h : WpE B Γ te fun r => ∀ σ H, Env B (Γ.set i (.im r)) σ H → D.nx σ H) : WpS B D Γ (tAsg te (gName i)) := fun σ H E =>
  h σ H E _ fun r v H' q p e => q _ _ ((E.mono e).set i p)
theorem ws_asgL {i : Nat} {tz : TS} (h : WpL B Γ te fun rs => WpS B D (Γ.set i (.ml rs)) tz) : WpS B D Γ (tSeq (tAsg te (gName i)) tz) := fun σ H E =>
  h σ H E _ fun rs p xs H' q hp e hx hal => q _ _ (E.setM i e hp ⟨p, xs, rfl, E.ex.free hp, hx, hal⟩)
theorem ws_asgX {i : Nat} {tz : TS} (h : WpX B Γ te fun ks => WpS B D (Γ.set i (.mx ks)) tz) : WpS B D Γ (tSeq (tAsg te (gName i)) tz) := fun σ H E =>
  h σ H E _ fun ks p es H' q hp e hx hal => q _ _ (E.setM i e hp ⟨p, es, rfl, E.ex.free hp, hx, hal⟩)
theorem ws_drop {tz : TS} (h : WpE B Γ te fun _ => WpS B D Γ tz) : WpS B D Γ (tSeq (tDrop te) tz) := fun σ H E =>
  h σ H E _ fun r v H' q p e => q _ _ (E.mono e)
theorem ws_if {tu tw tz : TS} (h : WpT B Γ t fun b => (b = true → WpS B { D with nx := tz D } Γ tu) ∧ (b = false → WpS B { D with nx := tz D } Γ tw)) : WpS B D Γ (tSeq (tIfS t tu tw) tz) := fun σ H E =>
  h σ H E _ fun b H1 hb e1 => by
    cases b with
    | true => exact iteT (hb.1 rfl σ H1 (E.mono e1))
    | false => exact iteF (hb.2 rfl σ H1 (E.mono e1))
theorem ws_if1 {tu tw : TS} (h : WpT B Γ t fun b => (b = true → WpS B D Γ tu) ∧ (b = false → WpS B D Γ tw)) : WpS B D Γ (tIfS t tu tw) := fun σ H E =>
  h σ H E _ fun b H1 hb e1 => by
    cases b with
    | true => exact iteT (hb.1 rfl σ H1 (E.mono e1))
    | false => exact iteF (hb.2 rfl σ H1 (E.mono e1))
/-- falling through to what comes behind -/
theorem ws_thru {tz : TS} (h : WpS B D Γ tz) : WpS B { D with nx := tz D } Γ tNext := fun σ H E => h σ H E
/-- with a word between: what follows is shown once -/
def tCut (t u : TS) : TS := fun D σ H => ∃ Mid : L2.St → Hp → Prop, t { D with nx := Mid } σ H ∧ ∀ σ' H', Mid σ' H' → u D σ' H'
theorem pss_cut {X : Cx} {st : Stmt} {rest : List Stmt} {t u : TS} (h1 : PS X st t) (h2 : PSs X rest u) : PSs X (st :: rest) (tCut t u) := by
  refine ⟨fun pins s σ H D I h => ?_⟩
  obtain ⟨Mid, hm, hu⟩ := h
  refine wpAny_execs_cons (thn (h1.run pins s σ H { D with nx := Mid } I hm) fun f s1 q => ?_)
  cases f with
  | next =>
    obtain ⟨σ', H', I', q⟩ := q
    exact h2.run pins s1 σ' H' D I' (hu σ' H' q)
  | ret v => exact q
  | brk => exact q
  | cont => exact q
def EnvP (B : Bd) (Γ : Ctx) : L2.St → Hp → Prop := fun σ H => Env B Γ σ H
theorem ws_cut (Γ' : Ctx) {t u : TS} (h1 : WpS B { D with nx := EnvP B Γ' } Γ t) (h2 : WpS B D Γ' u) : WpS B D Γ (tCut t u) := fun σ H E => ⟨EnvP B Γ', h1 σ H E, fun σ' H' E' => h2 σ' H' E'⟩
/-- ... the word not known yet but some relation in it -/
theorem ws_cutEx {α : Type} (Γ' : α → Ctx) {t u : TS} (h1 : WpS B { D with nx := fun σ H => ∃ a, Env B (Γ' a) σ H } Γ t) (h2 : ∀ a, WpS B D (Γ' a) u) : WpS B D Γ (tCut t u) := fun σ H E =>
  ⟨_, h1 σ H E, fun σ' H' ⟨a, E'⟩ => h2 a σ' H' E'⟩
theorem ws_nextP : WpS B { D with nx := EnvP B Γ } Γ tNext := fun σ H E => E

/-! ### freezing -/
def Frzs (u : HO) : Prop := Mut (some u)
/-- what an expression has made is not changed any more -/
def tFrz (te : TE) : TE := fun σ H Q => te σ H fun v H1 => ∃ a u, v = .ref a ∧ H1 a = some u ∧ Mut (some u) ∧ ∀ o, Q v (upd H1 a (.frz o u))
theorem pe_frz {X : Cx} {e : Expr} {te : TE} (h : PE X e te) : PE X e (tFrz te) := by
  refine ⟨fun pins s σ H Q I hw => ?_⟩
  refine thn (h.run pins s σ H _ I hw) fun v s1 ⟨x, H1, I1, r, a, u, ex, ha, mu, q⟩ => ?_
  obtain ⟨o, I2⟩ := I1.lock ha mu
  exact ⟨x, _, I2, r, q o⟩
theorem we_frzL (h : WpL B Γ te fun rs => k (rLst rs)) : WpE B Γ (tFrz te) k := fun σ H E Q hQ =>
  h σ H E _ fun rs p xs H' q hp e hx hal => ⟨p, .lst xs, rfl, hx, trivial, fun o => hQ _ _ _ q ⟨p, o, xs, rfl, upd_same, hal.st (Im.upd hx lst_c)⟩ (Same.put e hp)⟩
theorem we_frzX (h : WpX B Γ te fun ks => k (rDct B.P B.w B.K ks)) : WpE B Γ (tFrz te) k := fun σ H E Q hQ =>
  h σ H E _ fun ks p es H' q hp e hx hal => ⟨p, DXO B.P B.w p es, rfl, hx, trivial, fun o => hQ _ _ _ q ⟨p, o, es, rfl, upd_same, hal.st (Im.upd hx dx_c)⟩ (Same.put e hp)⟩
theorem we_frzD (h : WpD B Γ te fun ks => k (rDic ks)) : WpE B Γ (tFrz te) k := fun σ H E Q hQ =>
  h σ H E _ fun ks p es H' q hp e hx hal => ⟨p, .dK es, rfl, hx, trivial, fun o => hQ _ _ _ q ⟨p, o, es, rfl, upd_same, Paired.mapP hal fun _ _ ⟨z1, z2⟩ => ⟨z1, Rel.st _ (Im.upd hx dk_c) z2⟩⟩ (Same.put e hp)⟩
/-- a slot's thing is not changed any more -/
def tFrzS (i : Nat) (t : TS) : TS := fun D σ H => ∃ a u, σ[i]? = some (some (.ref a)) ∧ H a = some u ∧ Mut (some u) ∧ ∀ o, t D σ (upd H a (.frz o u))
theorem pss_frz {X : Cx} {sts : List Stmt} {t : TS} (i : Nat) (h : PSs X sts t) : PSs X sts (tFrzS i t) := by
  refine ⟨fun pins s σ H D I hw => ?_⟩
  obtain ⟨a, u, _, ha, mu, q⟩ := hw
  obtain ⟨o, I2⟩ := I.lock ha mu
  exact h.run pins s σ _ D I2 (q o)
theorem ws_frzL {i : Nat} {rs : List Rel} {t : TS} (hi : Γ[i]? = some (.ml rs)) (h : WpS B D (Γ.set i (.im (rLst rs))) t) : WpS B D Γ (tFrzS i t) := fun σ H E => by
  obtain ⟨ov, h1, l, xs, rfl, h0, hl, hal⟩ := E.ty i _ hi
  refine ⟨l, .lst xs, h1, hl, trivial, fun o => h _ _ (E.chg hi rfl h1 hl lst_c h0 ⟨.ref l, rfl, l, o, xs, rfl, upd_same, hal.st (Im.upd hl lst_c)⟩)⟩
theorem ws_frzX {i : Nat} {ks : List (List Int × Rel)} {t : TS} (hi : Γ[i]? = some (.mx ks)) (h : WpS B D (Γ.set i (.im (rDct B.P B.w B.K ks))) t) : WpS B D Γ (tFrzS i t) := fun σ H E => by
  obtain ⟨ov, h1, l, xs, rfl, h0, hl, hal⟩ := E.ty i _ hi
  refine ⟨l, _, h1, hl, trivial, fun o => h _ _ (E.chg hi rfl h1 hl dx_c h0 ⟨.ref l, rfl, l, o, xs, rfl, upd_same, hal.st (Im.upd hl dx_c)⟩)⟩

/-! ### a list that grows -/
theorem ws_app {i : Nat} {rs : List Rel} {tz : TS} (hi : Γ[i]? = some (.ml rs)) (h : WpE B Γ te fun r => rs.length < sizeLine ∧ WpS B D (Γ.set i (.ml (rs ++ [r]))) tz) :
    WpS B D Γ (tSeq (tDrop (tBM B.K "list" rAppend (tVar i) (tCons te tNil))) tz) := fun σ H E => by
  obtain ⟨ov, h1, l, xs, rfl, h0, hl, hal⟩ := E.ty i _ hi
  refine ⟨_, h1, .inl ⟨rfl, _, .inl (.inl hl)⟩, ?_⟩
  refine h σ H E _ fun r v H1 ⟨hz, q⟩ p e => ?_
  have hl1 := e _ _ hl
  refine ⟨l, xs, v, rfl, rfl, hl1, by rw [← Paired.length hal]; exact hz, ?_⟩
  have hal1 := hal.st (Same.im e)
  exact q _ _ ((E.mono e).chg hi rfl h1 hl1 lst_c h0 ⟨l, _, rfl, h0, upd_same, Al.st (Im.upd hl1 lst_c) (Paired.snoc hal1 p)⟩)
end
end BX
set_option Elab.async false
set_option linter.all false
set_option maxRecDepth 100000
/-! BXc: loops, targets, comprehensions. -/
namespace BX
open PySem PySem.Spec PyProof.Rows L2

/-! ### targets -/
/-- a target takes a thing of the relation r; only the slots js change -/
def WpG (B : Bd) (Γ : Ctx) (g : TG) (r : Rel) (js : List Nat) (Γ' : Ctx) : Prop :=
  ∀ σ H v, Env B Γ σ H → r.p v H → ∀ Q : L2.St → Hp → Prop, (∀ σ' H', Env B Γ' σ' H' → Same H H' → (∀ i, i ∉ js → σ'[i]? = σ[i]?) → σ'.length = σ.length → Q σ' H') → g v σ H Q
section
variable {B : Bd} {Γ Γ' Γ'' : Ctx} {D : Ends}
theorem wg_name {r : Rel} {j : Nat} : WpG B Γ (gName j) r [j] (Γ.set j (.im r)) := fun σ H v E p Q q =>
  q _ _ (E.set j p) (Same.refl H) (fun i hi => List.getElem?_set_ne (fun z => hi (by simp [z]))) (by simp)
def WpGs (B : Bd) (Γ : Ctx) (g : TGs) (rs : List Rel) (js : List Nat) (Γ' : Ctx) : Prop :=
  ∀ σ H vs, Env B Γ σ H → Al H rs vs → ∀ Q : L2.St → Hp → Prop, (∀ σ' H', Env B Γ' σ' H' → Same H H' → (∀ i, i ∉ js → σ'[i]? = σ[i]?) → σ'.length = σ.length → Q σ' H') → g vs σ H Q
theorem wgs_nil : WpGs B Γ gNil [] [] Γ := fun σ H vs E p Q q => by
  cases p
  exact ⟨rfl, q _ _ E (Same.refl H) (fun _ _ => rfl) rfl⟩
theorem wgs_cons {g : TG} {gs : TGs} {r : Rel} {rs : List Rel} {js ks : List Nat} (h1 : WpG B Γ g r js Γ') (h2 : WpGs B Γ' gs rs ks Γ'') : WpGs B Γ (gCons g gs) (r :: rs) (js ++ ks) Γ'' := fun σ H vs E p Q q => by
  cases p with
  | cons p t =>
    refine ⟨_, _, rfl, h1 σ H _ E p _ fun σ' H' E' e hj hl => ?_⟩
    exact h2 σ' H' _ E' (Al.st (Same.im e) t) _ fun σ'' H'' E'' e' hk hl' => q _ _ E'' (Same.trans e e') (fun i hi => (hk i fun z => hi (List.mem_append_right _ z)).trans (hj i fun z => hi (List.mem_append_left _ z))) (hl'.trans hl)
theorem wg_tup {gs : TGs} {rs : List Rel} {js : List Nat} {n : Nat} (hn : rs.length = n) (h : WpGs B Γ gs rs js Γ') : WpG B Γ (gTup B.K n gs) (rTup B.K rs) js Γ' := fun σ H v E p Q q => by
  obtain ⟨a, xs, rfl, hs, hal⟩ := p
  exact ⟨a, xs, rfl, hs, by rw [← Paired.length hal]; exact hn, h σ H xs E hal Q q⟩

/-! ### what is walked -/
/-- n turns; the i-th gives a thing of the relation rs i -/
def WpI (B : Bd) (Γ : Ctx) (wi : TI) (k : Nat → (Nat → Rel) → Prop) : Prop :=
  ∀ σ H, Env B Γ σ H → ∀ R : It → Hp → Prop, (∀ J n rs (G : Hp → Prop) (Y : Nat → Hp → V → Hp → Prop) H', k n rs → Same H H' → Walk J n G Y → G H' → (∀ H1 H2, Im H1 H2 → G H1 → G H2) → (∀ i H1 x H2, i < n → G H1 → Y i H1 x H2 → Same H1 H2 ∧ (rs i).p x H2) → R J H') → wi σ H R
theorem wi_tup {te : TE} {k : Nat → (Nat → Rel) → Prop} (h : WpE B Γ te fun r => ∃ rs, r = rTup B.K rs ∧ k rs.length fun i => rs.getD i (rC .non)) : WpI B Γ (iTup B.K te) k := fun σ H E R hR =>
  h σ H E _ fun r v H1 ⟨rs, er, hk⟩ p e => by
    subst er
    obtain ⟨a, xs, rfl, hs, hal⟩ := p
    refine ⟨a, rfl, ⟨xs, hs⟩, ?_⟩
    have hl : xs.length = rs.length := (Paired.length hal).symm
    have w : Walk (Itt B.K a) rs.length (fun H => SqT B.K H a xs ∧ Al H rs xs) (YAt xs) := by
      rw [← hl]
      exact walk_tup.mono (fun _ z => z.1) fun _ _ _ _ _ _ y => y
    refine hR _ _ _ _ _ H1 hk e w ⟨hs, hal⟩ (fun H1 H2 im z => ⟨sqT_im im z.1, z.2.st im⟩) fun i H1 x H2 hi z y => ?_
    obtain ⟨rfl, hx⟩ := y
    obtain ⟨r, hr, pr⟩ := z.2.get hx
    refine ⟨Same.refl _, ?_⟩
    rw [List.getD_eq_getElem?_getD, hr]
    exact pr
theorem wi_list {te : TE} {k : Nat → (Nat → Rel) → Prop} (h : WpE B Γ te fun r => ∃ rs, r = rLst rs ∧ k rs.length fun i => rs.getD i (rC .non)) : WpI B Γ (iList B.K te) k := fun σ H E R hR =>
  h σ H E _ fun r v H1 ⟨rs, er, hk⟩ p e => by
    subst er
    obtain ⟨a, o, xs, rfl, hs, hal⟩ := p
    refine ⟨a, rfl, ⟨xs, .inl (.inr ⟨o, hs⟩)⟩, ?_⟩
    have hl : xs.length = rs.length := (Paired.length hal).symm
    have w : Walk (Itl B.K a) rs.length (fun H => H a = some (.frz o (.lst xs)) ∧ Al H rs xs) (YAt xs) := by
      rw [← hl]
      exact walk_list.mono (fun _ z => .inl (.inr ⟨o, z.1⟩)) fun _ _ _ _ _ _ y => y
    refine hR _ _ _ _ _ H1 hk e w ⟨hs, hal⟩ (fun H1 H2 im z => ⟨im _ _ frz_nc z.1, z.2.st im⟩) fun i H1 x H2 hi z y => ?_
    obtain ⟨rfl, hx⟩ := y
    obtain ⟨r, hr, pr⟩ := z.2.get hx
    refine ⟨Same.refl _, ?_⟩
    rw [List.getD_eq_getElem?_getD, hr]
    exact pr
theorem wi_rng1 {ta : TA} {k : Nat → (Nat → Rel) → Prop} (h : WpA B Γ ta fun rs => ∃ j : Int, rs = [rInt j] ∧ -(2 ^ 62) ≤ j ∧ j < 2 ^ 62 ∧ k j.toNat fun i => rInt (i : Int)) : WpI B Γ (iRng1 ta) k := fun σ H E R hR =>
  h σ H E _ fun rs vs H1 ⟨j, er, h1, h2, hk⟩ p e => by
    subst er
    cases p with
    | cons p t =>
      cases t
      cases p
      refine ⟨j, rfl, h1, h2, hR _ _ _ _ _ H1 hk e walk_range trivial (fun _ _ _ _ => trivial) fun i H1 x H2 hi z y => ?_⟩
      obtain ⟨rfl, rfl⟩ := y
      exact ⟨Same.refl _, show V.int (0 + (i : Int)) = V.int (i : Int) by rw [Int.zero_add]⟩
theorem wi_rng2 {ta : TA} {k : Nat → (Nat → Rel) → Prop} (h : WpA B Γ ta fun rs => ∃ a j : Int, rs = [rInt a, rInt j] ∧ (-(2 ^ 62) ≤ a ∧ a < 2 ^ 62 ∧ -(2 ^ 62) ≤ j ∧ j < 2 ^ 62) ∧ k (j - a).toNat fun i => rInt (a + (i : Int))) : WpI B Γ (iRng2 ta) k := fun σ H E R hR =>
  h σ H E _ fun rs vs H1 ⟨a, j, er, h1, hk⟩ p e => by
    subst er
    cases p with
    | cons p t =>
      cases t with
      | cons p' t =>
        cases t
        cases p
        cases p'
        refine ⟨a, j, rfl, h1, hR _ _ _ _ _ H1 hk e walk_range trivial (fun _ _ _ _ => trivial) fun i H1 x H2 hi z y => ?_⟩
        obtain ⟨rfl, rfl⟩ := y
        exact ⟨Same.refl _, rfl⟩
theorem wi_enum {ta : TA} {k : Nat → (Nat → Rel) → Prop} (h : WpA B Γ ta fun rs' => ∃ rs, rs' = [rLst rs] ∧ k rs.length fun i => rTup B.K [rInt (i : Int), rs.getD i (rC .non)]) : WpI B Γ (iEnum B.K ta) k := fun σ H E R hR =>
  h σ H E _ fun rs' vs H1 ⟨rs, er, hk⟩ p e => by
    subst er
    cases p with
    | cons p t =>
      cases t
      obtain ⟨a, o, xs, rfl, hs, hal⟩ := p
      refine ⟨a, xs, rfl, .inl (.inr ⟨o, hs⟩), ?_⟩
      have hl : xs.length = rs.length := (Paired.length hal).symm
      have w : Walk (Ite B.K a) rs.length (fun H => H a = some (.frz o (.lst xs)) ∧ Al H rs xs) (YPair (fun i => some (.int (i : Nat))) (fun i => xs[i]?)) := by
        rw [← hl]
        exact walk_enum.mono (fun _ z => .inl (.inr ⟨o, z.1⟩)) fun _ _ _ _ _ _ y => y
      refine hR _ _ _ _ _ H1 hk e w ⟨hs, hal⟩ (fun H1 H2 im z => ⟨im _ _ frz_nc z.1, z.2.st im⟩) fun i H1 x H2 hi z y => ?_
      obtain ⟨T, x1, x2, rfl, hT, rfl, h1, h2⟩ := y
      cases h1
      obtain ⟨r, hr, pr⟩ := z.2.get h2
      refine ⟨Same.new hT, T, _, rfl, .inl (.inl upd_same), .cons rfl (.cons ?_ .nil)⟩
      rw [List.getD_eq_getElem?_getD, hr]
      exact r.st (Same.im (Same.new hT)) pr
theorem wi_zip {ta : TA} {k : Nat → (Nat → Rel) → Prop} (h : WpA B Γ ta fun rs' => ∃ rs ss, rs' = [rLst rs, rLst ss] ∧ k (min rs.length ss.length) fun i => rTup B.K [rs.getD i (rC .non), ss.getD i (rC .non)]) : WpI B Γ (iZip B.K ta) k := fun σ H E R hR =>
  h σ H E _ fun rs' vs H1 ⟨rs, ss, er, hk⟩ p e => by
    subst er
    cases p with
    | cons p t =>
      cases t with
      | cons p' t =>
        cases t
        obtain ⟨a, o, xs, rfl, hs, hal⟩ := p
        obtain ⟨b, o', ys, rfl, hs', hal'⟩ := p'
        refine ⟨a, b, xs, ys, rfl, .inl (.inr ⟨o, hs⟩), .inl (.inr ⟨o', hs'⟩), ?_⟩
        have w : Walk (Itz B.K a b) (min rs.length ss.length) (fun H => (H a = some (.frz o (.lst xs)) ∧ Al H rs xs) ∧ H b = some (.frz o' (.lst ys)) ∧ Al H ss ys) (YPair (fun i => xs[i]?) (fun i => ys[i]?)) :=
          (walk_zip (by rw [Paired.length hal, Paired.length hal'])).mono (fun _ z => ⟨.inl (.inr ⟨o, z.1.1⟩), .inl (.inr ⟨o', z.2.1⟩)⟩) fun _ _ _ _ _ _ y => y
        refine hR _ _ _ _ _ H1 hk e w ⟨⟨hs, hal⟩, hs', hal'⟩ (fun H1 H2 im z => ⟨⟨im _ _ frz_nc z.1.1, z.1.2.st im⟩, im _ _ frz_nc z.2.1, z.2.2.st im⟩) fun i H1 x H2 hi z y => ?_
        obtain ⟨T, x1, x2, rfl, hT, rfl, h1, h2⟩ := y
        obtain ⟨r, hr, pr⟩ := z.1.2.get h1
        obtain ⟨r', hr', pr'⟩ := z.2.2.get h2
        refine ⟨Same.new hT, T, _, rfl, .inl (.inl upd_same), .cons ?_ (.cons ?_ .nil)⟩
        · rw [List.getD_eq_getElem?_getD, hr]
          exact r.st (Same.im (Same.new hT)) pr
        · rw [List.getD_eq_getElem?_getD, hr']
          exact r'.st (Same.im (Same.new hT)) pr'

/-! ### for -/
def EnvS (B : Bd) (S : Ctx → Prop) : L2.St → Hp → Prop := fun σ H => ∃ Γ, S Γ ∧ Env B Γ σ H
theorem ws_nextS {S : Ctx → Prop} (Γ' : Ctx) (hw : Weak Γ Γ') (hs : S Γ') : WpS B { D with nx := EnvS B S } Γ tNext := fun σ H E => ⟨Γ', hs, E.wk hw⟩
/-- S i: what the slots may hold behind i turns -/
theorem ws_for {wi : TI} {g : TG} {tb tz : TS} (h : WpI B Γ wi fun n rs => ∃ S : Nat → Ctx → Prop, S 0 Γ ∧
    (∀ i, i < n → ∀ Γ1, S i Γ1 → ∀ G st, ∃ Γ2 js, WpG (B.more G st) Γ1 g (rs i) js Γ2 ∧
      WpS (B.more G st) { D with nx := EnvS (B.more G st) (S (i + 1)), ct := EnvS (B.more G st) (S (i + 1)), bk := tz D } Γ2 tb) ∧
    ∀ Γ1, S n Γ1 → WpS B D Γ1 tz) : WpS B D Γ (tSeq (tFor wi g tb) tz) := fun σ H E => by
  refine h σ H E _ fun J n rs G Y H1 ⟨S, h0, hs, hz⟩ e w hG im hY => ?_
  refine for_it w (fun i σ H => EnvS (B.more G im) (S i) σ H) ⟨Γ, h0, (E.mono e).more hG⟩ (fun i σ H _ ⟨Γ1, _, p⟩ => p.fx.2) (fun i x σ' H2 H3 hi ⟨Γ1, p1, p2⟩ y => ?_) fun σ' H2 ⟨Γ1, p1, p2⟩ => hz Γ1 p1 σ' H2 p2.less
  obtain ⟨e1, px⟩ := hY i H2 x H3 hi p2.fx.2 y
  obtain ⟨Γ2, js, hg, hb⟩ := hs i hi Γ1 p1 G im
  exact hg σ' H3 x (p2.mono e1) px _ fun σ2 H4 E2 _ _ _ => hb σ2 H4 E2
/-- while: S m: what the slots may hold where m turns at most are left -/
theorem ws_while {tt : TT} {tb tz : TS} (S : Nat → Ctx → Prop) (m0 : Nat) (h0 : S m0 Γ)
    (h : ∀ m Γ1, S m Γ1 → WpT B Γ1 tt fun b => (b = true → WpS B { D with nx := EnvS B (fun Γ' => ∃ m', m' < m ∧ S m' Γ'), ct := EnvS B (fun Γ' => ∃ m', m' < m ∧ S m' Γ'), bk := tz D } Γ1 tb) ∧ (b = false → WpS B D Γ1 tz)) :
    WpS B D Γ (tSeq (tWhile tt tb) tz) := fun σ H E => by
  refine ⟨fun m σ H => EnvS B (S m) σ H, ⟨m0, Γ, h0, E⟩, fun m σ1 H1 ⟨Γ1, s1, E1⟩ => ?_⟩
  refine h m Γ1 s1 σ1 H1 E1 _ fun b H2 ⟨q1, q2⟩ e => ?_
  cases b with
  | true => exact iteT ⟨_, fun σ' H' ⟨Γ', ⟨m', hm, s'⟩, E'⟩ => ⟨m', hm, Γ', s', E'⟩, q1 rfl σ1 H2 (E1.mono e)⟩
  | false => exact iteF (q2 rfl σ1 H2 (E1.mono e))

/-! ### comprehensions -/
theorem wt_yes {kb : Bool → Prop} (h : kb true) : WpT B Γ tYes kb := fun σ H E Q hQ => hQ true H h (Same.refl H)
/-- A i es: what may be made behind i turns -/
theorem wl_lc {wi : TI} {g : TG} {tt : TT} {te : TE} {vs : List Nat} {kl : List Rel → Prop} (h : WpI B Γ wi fun n rs => ∃ A : Nat → List Rel → Prop, A 0 [] ∧
    (∀ i, i < n → ∀ es, A i es → ∀ G st, ∃ Γ2 js, (∀ j, j ∈ js → j ∈ vs) ∧ WpG (B.more G st) (wipeC Γ vs) g (rs i) js Γ2 ∧
      WpT (B.more G st) Γ2 tt fun b => (b = true → WpE (B.more G st) Γ2 te fun r => es.length < sizeLine ∧ A (i + 1) (es ++ [r])) ∧ (b = false → A (i + 1) es)) ∧
    ∀ es, A n es → kl es) : WpL B Γ (tLc wi g tt te vs) kl := fun σ H E Q hQ => by
  refine h σ H E _ fun J n rs G Y H1 ⟨A, h0, hs, hz⟩ e w hG im hY => ?_
  intro Dl hD
  refine lc_it (Qd := fun H => Q (.ref Dl) H) w (fun i H2 => ∃ es xs, A i es ∧ H2 Dl = some (.lst xs) ∧ Al H2 es xs ∧ Env (B.more G im) (wipeC Γ vs) (wipe σ vs) H2 ∧ Same H1 H2) ?_ (fun i H2 _ ⟨_, _, _, _, _, p, _⟩ => p.fx.2) ?_ ?_
  · have e1 : Same H1 (upd H1 Dl (.lst [])) := Same.new hD
    exact ⟨[], [], h0, upd_same, .nil, (((E.mono e).mono e1).wipe vs).more (im _ _ (Same.im e1) hG), e1⟩
  · rintro i x H2 H3 hi ⟨es, xs, a, hl, hal, p, s1⟩ y
    obtain ⟨e1, px⟩ := hY i H2 x H3 hi p.fx.2 y
    obtain ⟨Γ2, js, hj, hg, ht⟩ := hs i hi es a G im
    refine hg _ H3 x (p.mono e1) px _ fun σ2 H4 E2 e2 hk hlen => ⟨?_, ?_⟩
    · refine (wipe_of hlen fun j hjn => hk j fun z => hjn (hj j z)).trans (wipe_of (wipe_length σ vs) fun j hjn => wipe_out hjn)
    · refine ht σ2 H4 E2 _ fun b H5 ⟨q1, q2⟩ e3 => ?_
      have e13 : Same H2 H5 := Same.trans e1 (Same.trans e2 e3)
      cases b with
      | true =>
        refine iteT (q1 rfl σ2 H5 (E2.mono e3) _ fun r v H6 ⟨hz', a'⟩ pv e4 => ?_)
        have e14 : Same H2 H6 := Same.trans e13 e4
        have hl6 := e14 _ _ hl
        refine ⟨xs, hl6, by rw [← Paired.length hal]; exact hz', es ++ [r], xs ++ [v], a', upd_same, ?_, ?_, ?_⟩
        · exact Al.st (Im.upd hl6 lst_c) (Paired.snoc (Al.st (Same.im e14) hal) pv)
        · have p6 := p.mono e14
          have h0n : B.H0 Dl = none := by
            have z : Same B.H0 H1 := Same.trans E.ex e
            exact Same.free z hD
          refine ⟨p6.len, Same.put p6.ex h0n, (B.more G im).fs _ _ (Im.upd hl6 lst_c) p6.fx, fun j t ej => ?_, p6.dis⟩
          obtain ⟨ov, z1, z2⟩ := p6.ty j t ej
          have old : Env B (wipeC Γ vs) (wipe σ vs) H1 := (E.mono e).wipe vs
          obtain ⟨ov', y1, y2⟩ := old.ty j t ej
          rw [z1] at y1
          cases y1
          refine ⟨ov, z1, ?_⟩
          cases t with
          | no => trivial
          | im r => obtain ⟨v, c1, c2⟩ := z2; exact ⟨v, c1, r.st (Im.upd hl6 lst_c) c2⟩
          | ml rs =>
            obtain ⟨l, ys, c1, c2, c3, c4⟩ := z2
            obtain ⟨l', ys', d1, d2, d3, d4⟩ := y2
            subst c1
            cases d1
            refine ⟨l, ys, rfl, c2, ?_, c4.st (Im.upd hl6 lst_c)⟩
            rw [upd_ne (fun z => by rw [z, hD] at d3; cases d3)]
            exact c3
          | mx ks =>
            obtain ⟨l, ys, c1, c2, c3, c4⟩ := z2
            obtain ⟨l', ys', d1, d2, d3, d4⟩ := y2
            subst c1
            cases d1
            refine ⟨l, ys, rfl, c2, ?_, c4.st (Im.upd hl6 lst_c)⟩
            rw [upd_ne (fun z => by rw [z, hD] at d3; cases d3)]
            exact c3
        · exact Same.put (Same.trans s1 e14) hD
      | false => exact iteF ⟨es, xs, q2 rfl, e13 _ _ hl, hal.st (Same.im e13), p.mono e13, Same.trans s1 e13⟩
  · rintro H2 ⟨es, xs, a, hl, hal, p, s1⟩
    exact hQ es Dl xs H2 (hz es a) (Same.free e hD) (Same.trans e s1) hl hal
end
end BX
set_option Elab.async false
set_option linter.all false
set_option maxRecDepth 100000
set_option maxHeartbeats 1000000
/-! BXd: dicts whose keys are tuples (the keys' own tuples of the body or of the module). -/
namespace BX
open PySem PySem.Spec PyProof.Rows L2

section
variable {κ α : Type} [DecidableEq κ]
def getM (m : List (κ × α)) (k : κ) : Option α := (m.find? fun e => decide (e.1 = k)).map (·.2)
def putM (m : List (κ × α)) (k : κ) (a : α) : List (κ × α) := if (getM m k).isSome then m.map (fun e => if e.1 = k then (e.1, a) else e) else m ++ [(k, a)]
theorem getM_nil (k : κ) : getM ([] : List (κ × α)) k = none := rfl
theorem getM_cons (e : κ × α) (m : List (κ × α)) (k : κ) : getM (e :: m) k = if e.1 = k then some e.2 else getM m k := by
  unfold getM
  rw [List.find?_cons]
  by_cases h : e.1 = k <;> simp [h]
end
/-- the entry is replaced (the key's own tuple stays), or comes behind -/
def putE (es : List DEnt) (k : List Key) (b : Addr) (v : V) : List DEnt :=
  if (getM es k).isSome then es.map (fun e => if e.1 = k then (e.1, e.2.1, v) else e) else es ++ [(k, b, v)]

/-- es and xs: the same entries -/
abbrev EX : List DEnt → List (List Key × Addr × Value) → Prop := Paired fun p q => p.1 = q.1 ∧ p.2.1 = q.2.1 ∧ RelV p.2.2 q.2.2
theorem EX.val {es : List DEnt} {xs : List (List Key × Addr × Value)} (r : EX es xs) (k : List Key) : RelO ((getM es k).map (·.2)) ((atKey xs k).map (·.2)) := by
  induction r with
  | nil => exact True.intro
  | @cons p q ps qs h t ih =>
    obtain ⟨h1, _, h2⟩ := h
    rw [getM_cons]
    by_cases e : p.1 = k
    · have e' : q.1 = k := h1.symm.trans e
      have b : atKey (q :: qs) k = some q.2 := by simp [atKey, List.find?_cons, e']
      rw [if_pos e, b]; exact h2
    · have e' : ¬ q.1 = k := fun z => e (h1.trans z)
      have b : atKey (q :: qs) k = atKey qs k := by simp [atKey, List.find?_cons, e']
      rw [if_neg e, b]; exact ih
theorem EX.some {es : List DEnt} {xs : List (List Key × Addr × Value)} (r : EX es xs) (k : List Key) : (getM es k).isSome = (atKey xs k).isSome := by
  have q := (r.val k).isSome_eq
  rw [Option.isSome_map, Option.isSome_map] at q
  exact q
theorem EX.repl {es : List DEnt} {xs : List (List Key × Addr × Value)} (r : EX es xs) (k : List Key) {y : V} {u : Value} (ry : RelV y u) :
    EX (es.map fun e => if e.1 = k then (e.1, e.2.1, y) else e) (xs.map (putAt k u)) := by
  induction r with
  | nil => exact .nil
  | @cons p q ps qs h t ih =>
    rw [List.map_cons, List.map_cons]
    refine .cons ?_ ih
    obtain ⟨h1, h2, h3⟩ := h
    unfold putAt
    by_cases e : p.1 = k
    · rw [if_pos e, if_pos (h1.symm.trans e)]; exact ⟨h1, h2, ry⟩
    · rw [if_neg e, if_neg (fun z => e (h1.trans z))]; exact ⟨h1, h2, h3⟩
theorem EX.put {es : List DEnt} {xs : List (List Key × Addr × Value)} (r : EX es xs) (k : List Key) {b : Addr} {y : V} {u : Value} (ry : RelV y u) :
    EX (putE es k b y) (storedH xs k b u) := by
  unfold putE storedH
  rw [r.some k]
  by_cases q : (atKey xs k).isSome = true
  · rw [if_pos q, if_pos q]; exact r.repl k ry
  · rw [if_neg q, if_neg q]; exact Paired.snoc r ⟨rfl, rfl, ry⟩
theorem putE_len (es : List DEnt) (k : List Key) (b : Addr) (v : V) : (putE es k b v).length ≤ es.length + 1 := by
  unfold putE
  split
  · rw [List.length_map]; omega
  · rw [List.length_append]; simp

section
variable {P : Program} {w : World} {K : PySem.W.Frag} {H : Hp} {h : Heap} {a b : Addr}
/-- a tuple of ints and texts is a key -/
theorem keyK {ks : List Key} (ok : HOk P w H h) (X : K.In h) (e : SqT K H a (ks.map kV)) : (tupleKind (mixKind P w)).is h ks a := by
  rcases e with (e | ⟨o, e⟩) | ⟨o, its, n, h1, h2, h3, h4, h5⟩
  · exact key_of ok e
  · obtain ⟨e1, z, its, r, ob, h1, h2, n, h3⟩ := (show ObjOk P w H h a (.frz o (.tup (ks.map kV))) from ok a _ e)
    exact ⟨ob, its.toArray, n, h1, h2, h3, by simpa using items_are r⟩
  · exact ⟨o, its, n, X _ _ h1, h2, h3, items_are h5⟩
abbrev KeysAt (K : PySem.W.Frag) (H : Hp) (es : List DEnt) : Prop := ∀ e ∈ es, SqT K H e.2.1 (e.1.map kV)
theorem AlX.keys {ks : List (List Int × Rel)} {es : List DEnt} (h : AlX K H ks es) : KeysAt K H es := by
  induction h with
  | nil => intro e he; cases he
  | @cons p q l1 l2 h t ih =>
    intro e he
    rcases List.mem_cons.mp he with z | z
    · subst z; rw [← h.1, ik_kV]; exact h.2.1
    · exact ih e z
theorem dx_rd {es : List DEnt} (ok : HOk P w H h) (X : K.In h) (e : Rd H a (DXO P w a es)) (hk : KeysAt K H es) : es.length ≤ sizeLine ∧ (a == sysModules) = false ∧
    ∃ xs, EX es xs ∧ h.DictOfH (tupleKind (mixKind P w)) a xs := by
  have x : ObjOk P w H h a (.ext (dxφ P w a es)) := e.ok ok
  obtain ⟨⟨z, y, xs, r, o, os, ep, h1, h2, h3, h4, h5⟩, _⟩ := x
  refine ⟨z, y, xs, r, o, os, ep, h1, h2, h3, h4, fun x hx => ?_, h5⟩
  have all : ∀ {l : List DEnt} {m : List (List Key × Addr × Value)}, EX l m → (∀ e ∈ l, SqT K H e.2.1 (e.1.map kV)) → ∀ x ∈ m, (tupleKind (mixKind P w)).is h x.1 x.2.1 := by
    intro l m q
    induction q with
    | nil => intro _ x hx; exact nomatch hx
    | @cons p q ps qs hq t ih =>
      intro hl x hx
      rcases List.mem_cons.mp hx with e | hx
      · subst e
        rw [← hq.1, ← hq.2.1]
        exact keyK ok X (hl p (List.mem_cons_self ..))
      · exact ih (fun e he => hl e (List.mem_cons_of_mem _ he)) x hx
  exact all r hk x hx
theorem dx_ok {H' : Hp} {es : List DEnt} {xs : List (List Key × Addr × Value)} (z : es.length ≤ sizeLine) (hd : (a == sysModules) = false) (r : EX es xs) (dd : h.DictOfH (tupleKind (mixKind P w)) a xs) : ObjOk P w H' h a (DXO P w a es) := by
  obtain ⟨o, os, ep, h1, h2, h3, h4, _, h5⟩ := dd
  refine ⟨⟨z, hd, xs, r, o, os, ep, h1, h2, h3, h4, h5⟩, ⟨o, h1⟩, fun g1 g2 q k => ?_⟩
  obtain ⟨z', hd', xs', r', o', os', ep', k1, k2, k3, k4, k5⟩ := q
  exact ⟨z', hd', xs', r', o', os', ep', k _ k1, k2, k3, k4, k5⟩
end

/-! ### d[y], y in d, d[y] = v at the level of the machine -/
section
variable {X : Cx} {pins : List (Addr × Obj)} {σ : L2.St} {H : Hp} {s : Shared} {a b : Addr} {v : V} {u r : Value} {es : List DEnt} {k : List Key} {A : Around} {E : Value → Shared → Prop}
abbrev RdX (X : Cx) (H : Hp) (a : Addr) (es : List DEnt) : Prop := Rd H a (DXO X.prog X.w a es) ∧ KeysAt X.K H es
theorem x_getItem {Q : Value → Shared → Prop} (hu : A.units + 1 < cLine) (I : Inv X pins σ H s) (g : RdX X H a es) (kb : SqT X.K H b (k.map kV)) (hv : (getM es k).map (·.2) = some v) (h : ∀ w' s', Inv X pins σ H s' → RelV v w' → Q w' s') :
    wpAny (model X.prog X.w) A (getItem (.ref a) (.ref b)) Q E s := by
  obtain ⟨z, hd, xs, rel, dd⟩ := dx_rd I.hok I.kIn g.1 g.2
  obtain ⟨w', hw, rw'⟩ := RelO.some_of (v := v) (o := (atKey xs k).map (·.2)) (by rw [← hv]; exact rel.val k)
  obtain ⟨p, hp, hp2⟩ := Option.map_eq_some_iff.mp hw
  refine wpAny_getItem_heap (tupleKind_room_in1 hu) (keyK I.hok I.kIn kb) dd hp ?_
  rw [hp2]
  exact h w' _ (I.tok _) rw'
theorem x_in {Q : Value → Shared → Prop} (hu : A.units + 1 < cLine) (I : Inv X pins σ H s) (g : RdX X H a es) (kb : SqT X.K H b (k.map kV)) (h : ∀ s', Inv X pins σ H s' → Q (.bool (getM es k).isSome) s') :
    wpAny (model X.prog X.w) A (compareOp .In (.ref b) (.ref a)) Q E s := by
  obtain ⟨z, hd, xs, rel, dd⟩ := dx_rd I.hok I.kIn g.1 g.2
  refine wpAny_in_heap (tupleKind_room_in1 hu) (keyK I.hok I.kIn kb) hd dd ?_
  rw [← rel.some k]
  exact h _ (I.tok _)
theorem x_notIn {Q : Value → Shared → Prop} (hu : A.units + 1 < cLine) (I : Inv X pins σ H s) (g : RdX X H a es) (kb : SqT X.K H b (k.map kV)) (h : ∀ s', Inv X pins σ H s' → Q (.bool (!(getM es k).isSome)) s') :
    wpAny (model X.prog X.w) A (compareOp .NotIn (.ref b) (.ref a)) Q E s := by
  obtain ⟨z, hd, xs, rel, dd⟩ := dx_rd I.hok I.kIn g.1 g.2
  refine wpAny_notIn_heap (tupleKind_room_in1 hu) (keyK I.hok I.kIn kb) hd dd ?_
  rw [← rel.some k]
  exact h _ (I.tok _)
theorem x_setItem {Q : Unit → Shared → Prop} (hu : A.units + 1 < cLine) (I : Inv X pins σ H s) (g : H a = some (DXO X.prog X.w a es)) (hk : KeysAt X.K H es) (kb : SqT X.K H b (k.map kV)) (hz : es.length < sizeLine) (rv : RelV v r)
    (h : ∀ s', Inv X pins σ (upd H a (DXO X.prog X.w a (putE es k b v))) s' → Q () s') : wpAny (model X.prog X.w) A (setItem (.ref a) (.ref b) r) Q E s := by
  obtain ⟨z, hd, xs, rel, dd⟩ := dx_rd I.hok I.kIn (.inl g) hk
  have hzx : xs.length ≤ sizeLine := by rw [← Paired.length rel]; exact z
  have hl : (putE es k b v).length ≤ sizeLine := by have := putE_len es k b v; omega
  refine wpAny_setItem_heap (hsz := hzx) (tupleKind_room_in1 hu) (keyK I.hok I.kIn kb) dd fun h' dd' hs => h _ ?_
  obtain ⟨q, os, ep, hq, h2⟩ := id dd'
  exact d_write I (by rw [g]; exact True.intro) hs ⟨q, hq⟩ (dx_ok hl hd (rel.put k rv) dd')
theorem x_typeIs (I : Inv X pins σ H s) (g : RdX X H a es) : s.TypeIs (.ref a) "dict" := by
  obtain ⟨_, _, xs, _, dd⟩ := dx_rd I.hok I.kIn g.1 g.2
  exact dd.typeIs
theorem x_noDict (I : Inv X pins σ H s) (g : RdX X H a es) : ∀ b, Value.ref a = .ref b → ∃ ob, s.heap.get? b = some ob ∧ ob.dict = none := fun b q => by
  cases q
  obtain ⟨_, _, xs, _, ob, _, _, h1, h2, _⟩ := dx_rd I.hok I.kIn g.1 g.2
  exact ⟨ob, h1, h2.2.1⟩
theorem x_len {Q : Value → Shared → Prop} (I : Inv X pins σ H s) (g : RdX X H a es) (h : ∀ t s', Inv X pins σ H s' → Q (.int es.length t) s') : wpAny (model X.prog X.w) A (call (.builtin "len") [.ref a]) Q E s := by
  obtain ⟨z, hd, xs, rel, dd⟩ := dx_rd I.hok I.kIn g.1 g.2
  have ex : xs.length = es.length := (Paired.length rel).symm
  refine PyProof.Rows.call_len_slot (n := xs.length) dd.typeIs PySem.F.slot_dict_len (fun Q' hq => len_keyed (knd := tupleKind (mixKind X.prog X.w)) (kvs := pairsH xs) hd ⟨xs, dd, rfl⟩ (by simpa [pairsH] using hq)) (by omega) (by rw [ex]; rw [sizeLine_eq] at z; omega) ?_
  rw [ex]
  exact h _ _ (I.tok _)
end
end BX
set_option Elab.async false
set_option linter.all false
set_option maxRecDepth 100000
set_option maxHeartbeats 1000000
/-! BXe: rules for dicts whose keys are tuples of ints. -/
namespace BX
open PySem PySem.Spec PyProof.Rows L2

theorem dx_empty {P : Program} {w : World} {H : Hp} (h : Heap) (hb : sysModules < h.objs.size) : ObjOk P w H (h.push { cls := .type "dict", data := .dict #[] }) h.objs.size (DXO P w h.objs.size []) :=
  dx_ok (Nat.zero_le _) (beq_eq_false_iff_ne.mpr (Ne.symm (Nat.ne_of_lt hb))) .nil
    ⟨_, #[], 0, Heap.get?_push_size _ rfl, ⟨rfl, rfl, rfl⟩, rfl, rfl, (by intro x hx; cases hx), List.nodup_nil⟩

section
variable (P : Program) (w : World) (K : PySem.W.Frag)
/-- {} -/
def tXNew : TE := fun _ H Q => ∀ p, H p = none → Q (.ref p) (upd H p (DXO P w p []))
/-- d[y] -/
def tXGet (td ty : TE) : TE := fun σ H Q => td σ H fun x H1 => ty σ H1 fun y H2 => ∃ a es b k v, x = .ref a ∧ Rd H2 a (DXO P w a es) ∧ KeysAt K H2 es ∧ y = .ref b ∧ SqT K H2 b (k.map kV) ∧ (getM es k).map (·.2) = some v ∧ Q v H2
/-- y in d -/
def tXIn (ty td : TE) : TE := fun σ H Q => ty σ H fun y H1 => td σ H1 fun x H2 => ∃ a es b k, x = .ref a ∧ Rd H2 a (DXO P w a es) ∧ KeysAt K H2 es ∧ y = .ref b ∧ SqT K H2 b (k.map kV) ∧ Q (.bl (getM es k).isSome) H2
def tXNotIn (ty td : TE) : TE := fun σ H Q => ty σ H fun y H1 => td σ H1 fun x H2 => ∃ a es b k, x = .ref a ∧ Rd H2 a (DXO P w a es) ∧ KeysAt K H2 es ∧ y = .ref b ∧ SqT K H2 b (k.map kV) ∧ Q (.bl (!(getM es k).isSome)) H2
/-- d[y] = v -/
def sXPut (td ty tv : TE) : TS := fun D σ H => tv σ H fun v H1 => td σ H1 fun x H2 => ty σ H2 fun y H3 => ∃ a es b k, x = .ref a ∧ H3 a = some (DXO P w a es) ∧ KeysAt K H3 es ∧ y = .ref b ∧ SqT K H3 b (k.map kV) ∧ es.length < sizeLine ∧
  D.nx σ (upd H3 a (DXO P w a (putE es k b v)))
/-- d.get(y, z) -/
def tXGet2 (td ty tz : TE) : TE := fun σ H Q => td σ H fun x H1 => ∃ a es0, x = .ref a ∧ Rd H1 a (DXO P w a es0) ∧ KeysAt K H1 es0 ∧ ty σ H1 fun y H2 => tz σ H2 fun z H3 => ∃ es b k, Rd H3 a (DXO P w a es) ∧ KeysAt K H3 es ∧ y = .ref b ∧ SqT K H3 b (k.map kV) ∧
  Q (((getM es k).map (·.2)).getD z) H3
/-- len(d) -/
def rXLen : List V → Hp → VK → Prop := fun xs H Q => ∃ a es, xs = [.ref a] ∧ Rd H a (DXO P w a es) ∧ KeysAt K H es ∧ Q (.int es.length) H
end

section
variable {X : Cx} {pos : Pos} {o i e value f : Expr} {pos' tpos apos cpos : Pos} {td ty tv tz : TE}
theorem pe_xnew : PE X (.Dict [] [] pos) (tXNew X.prog X.w) := ⟨fun pins s σ H Q I h =>
  wpAny_Dict_empty ⟨.ref s.heap.objs.size, _, I.laid (a := s.heap.objs.size) (o := DXO X.prog X.w s.heap.objs.size []) (t' := s.toks) (fun _ _ q => Heap.get?_push_of_some _ q) (Nat.le_refl _) (dx_empty s.heap I.big), rfl, h _ (I.hok.fresh (Nat.le_refl _))⟩⟩
theorem pe_xget (hu : X.A.units + 1 < cLine) (ho : PE X o td) (hi : PE X i ty) (hs : NoSl i) : PE X (.Subscript o i pos) (tXGet X.prog X.w X.K td ty) := by
  refine ⟨fun pins s σ H Q I h => ?_⟩
  refine subD_of PySem.F.slot_dict_getitem.lookup hs (thn (ho.run pins s σ H _ I h) fun u s1 ⟨x, H1, I1, rx, q1⟩ => thn (hi.run pins s1 σ H1 _ I1 q1) fun iv s2 ⟨y, H2, I2, ry, a, es, b, k, v, ex, g, ka, ey, kb, hv, q2⟩ => ?_)
  subst ex ey
  obtain rfl : u = Value.ref a := rx
  obtain rfl : iv = Value.ref b := ry
  exact ⟨x_typeIs I2 ⟨g, ka⟩, x_getItem hu I2 ⟨g, ka⟩ kb hv fun w' s3 I3 rw' => ⟨v, H2, I3, rw', q2⟩⟩
theorem pc_xin (hu : X.A.units + 1 < cLine) (hi : PE X i ty) (ho : PE X o td) : PC X .In i o (tXIn X.prog X.w X.K ty td) := by
  refine ⟨fun pins s σ H Q I h => ?_⟩
  refine thn (hi.run pins s σ H _ I h) fun iv s1 ⟨y, H1, I1, ry, q1⟩ => thn (ho.run pins s1 σ H1 _ I1 q1) fun u s2 ⟨x, H2, I2, rx, a, es, b, k, ex, g, ka, ey, kb, q2⟩ => ?_
  subst ex ey
  obtain rfl : u = Value.ref a := rx
  obtain rfl : iv = Value.ref b := ry
  exact x_in hu I2 ⟨g, ka⟩ kb fun s3 I3 => ⟨.bl _, H2, I3, rfl, q2⟩
theorem pc_xnotin (hu : X.A.units + 1 < cLine) (hi : PE X i ty) (ho : PE X o td) : PC X .NotIn i o (tXNotIn X.prog X.w X.K ty td) := by
  refine ⟨fun pins s σ H Q I h => ?_⟩
  refine thn (hi.run pins s σ H _ I h) fun iv s1 ⟨y, H1, I1, ry, q1⟩ => thn (ho.run pins s1 σ H1 _ I1 q1) fun u s2 ⟨x, H2, I2, rx, a, es, b, k, ex, g, ka, ey, kb, q2⟩ => ?_
  subst ex ey
  obtain rfl : u = Value.ref a := rx
  obtain rfl : iv = Value.ref b := ry
  exact x_notIn hu I2 ⟨g, ka⟩ kb fun s3 I3 => ⟨.bl _, H2, I3, rfl, q2⟩
theorem ps_xput (hu : X.A.units + 1 < cLine) (ho : PE X o td) (hi : PE X i ty) (hv : PE X value tv) (hs : swapsWith value (some (.Subscript o i pos')) pos.line X.env = pure false) :
    PS X (.Assign [.Subscript o i pos'] value pos) (sXPut X.prog X.w X.K td ty tv) := by
  refine ⟨fun pins s σ H D I h => ?_⟩
  refine wpAny_Assign_Subscript (thn (hv.run pins s σ H _ I h) fun r s1 ⟨v, H1, I1, rv, q1⟩ => thn (ho.run pins s1 σ H1 _ I1 q1) fun u s2 ⟨x, H2, I2, rx, q2⟩ => thn (hi.run pins s2 σ H2 _ I2 q2) fun iv s3 ⟨y, H3, I3, ry, a, es, b, k, ex, g, ka, ey, kb, hz, q3⟩ => ?_) hs
  subst ex ey
  obtain rfl : u = Value.ref a := rx
  obtain rfl : iv = Value.ref b := ry
  exact x_setItem hu I3 g ka kb hz rv fun s4 I4 => ⟨σ, _, I4, q3⟩
theorem x_get2 {pins : List (Addr × Obj)} {σ : L2.St} {H : Hp} {s : Shared} {a b : Addr} {d : V} {r : Value} {es : List DEnt} {k : List Key} {A : Around} {E : Value → Shared → Prop} {Q : Value → Shared → Prop} (hu : A.units + 1 < cLine) (I : Inv X pins σ H s) (g : RdX X H a es) (kb : SqT X.K H b (k.map kV)) (rd : RelV d r) (h : ∀ w' s', Inv X pins σ H s' → RelV (((getM es k).map (·.2)).getD d) w' → Q w' s') :
    wpAny (model X.prog X.w) A (call (.builtin "dict.get") [.ref a, .ref b, r]) Q E s := by
  obtain ⟨z, hd, xs, rel, dd⟩ := dx_rd I.hok I.kIn g.1 g.2
  refine call_meetsIn PySem.F.slot_dict_get dd.typeIs PySem.F.entry_dict_get (PySem.F.args_dict_get_3 _ _ _) (meetsH_dict_get_default (tupleKind (mixKind X.prog X.w)) a b hd r) ⟨tupleKind_room_in1 hu, k, xs, keyK I.hok I.kIn kb, dd, h _ _ (I.tok _) ?_⟩
  exact (rel.val k).getD rd
theorem pe_xget2 (hu : X.A.units + 1 < cLine) (ho : PE X o td) (he : PE X e ty) (hf : PE X f tz) (m : M2 X o "get" apos e f cpos) : PE X (.Call (.Attribute o "get" apos) [e, f] [] cpos) (tXGet2 X.prog X.w X.K td ty tz) := by
  refine ⟨fun pins s σ H Q I h => ?_⟩
  refine wpAny_Call_method m.base m.few m.line PySem.F.plainAttrs_dict PySem.F.slot_dict_get PySem.F.type_dict_get (thn (ho.run pins s σ H _ I h) fun u s1 ⟨x, H1, I1, rx, a, es0, ex, d, kd, q1⟩ => ?_)
  subst ex
  obtain rfl : u = Value.ref a := rx
  refine ⟨x_typeIs I1 ⟨d, kd⟩, x_noDict I1 ⟨d, kd⟩, ?_⟩
  rw [m.trees]
  refine Calls.callWith_builtin rfl (Calls.evalArgs_plain (Calls.spliced_cons (thn (he.run pins s1 σ H1 _ I1 q1) fun iv s2 ⟨y, H2, I2, ry, q2⟩ =>
    Calls.spliced_cons (thn (hf.run pins s2 σ H2 _ I2 q2) fun fv s3 ⟨z, H3, I3, rz, es, b, k, g, ka, ey, kb, q3⟩ => Calls.spliced_nil ?_))))
  subst ey
  obtain rfl : iv = Value.ref b := ry
  exact x_get2 hu I3 ⟨g, ka⟩ kb rz fun w' s4 I4 rw' => ⟨_, H3, I4, rw', q3⟩
theorem cr_xlen : CallR X (.builtin "len") (rXLen X.prog X.w X.K) := by
  intro pins s σ H xs us Q I r ⟨a, es, ex, g, ka, q⟩
  subst ex
  obtain ⟨u, eu, rx⟩ := vals1 r
  subst eu
  cases rx
  exact x_len I ⟨g, ka⟩ fun t s' I' => ⟨.int es.length, H, I', ⟨t, rfl⟩, q⟩
end

/-! ### typed -/
abbrev rKey (K : PySem.W.Frag) (k : List Int) : Rel := rTup K (k.map rInt)
theorem al_ints {H : Hp} : ∀ {k : List Int} {vs : List V}, Al H (k.map rInt) vs → vs = k.map V.int
  | [], _, .nil => rfl
  | i :: k, _, .cons h t => by rw [List.map_cons, ← al_ints t]; exact congrArg (· :: _) h
theorem ints_al {H : Hp} : ∀ (k : List Int), Al H (k.map rInt) (k.map V.int)
  | [] => .nil
  | i :: k => .cons rfl (ints_al k)
theorem rKey_at {K : PySem.W.Frag} {k : List Int} {v : V} {H : Hp} (h : (rKey K k).p v H) : ∃ b, v = .ref b ∧ SqT K H b ((ik k).map kV) := by
  obtain ⟨a, xs, e, s, l⟩ := h
  refine ⟨a, e, ?_⟩
  rw [ik_kV, ← al_ints l]
  exact s
theorem rKey_of {K : PySem.W.Frag} {k : List Int} {b : Addr} {H : Hp} (h : SqT K H b (k.map V.int)) : (rKey K k).p (.ref b) H := ⟨b, _, rfl, h, ints_al k⟩
theorem AlX.val {K : PySem.W.Frag} {H : Hp} {ks : List (List Int × Rel)} {es : List DEnt} (h : AlX K H ks es) (k : List Int) :
    (getM ks k = none ∧ getM es (ik k) = none) ∨ ∃ r b v, getM ks k = some r ∧ getM es (ik k) = some (b, v) ∧ r.p v H := by
  induction h with
  | nil => exact .inl ⟨rfl, rfl⟩
  | @cons p q l1 l2 h t ih =>
    obtain ⟨h1, _, h2⟩ := h
    rw [getM_cons, getM_cons]
    by_cases e : p.1 = k
    · rw [if_pos e, if_pos (by rw [← h1, e])]
      exact .inr ⟨_, _, _, rfl, rfl, h2⟩
    · rw [if_neg e, if_neg (fun z => e (ik_inj (h1.trans z)))]
      exact ih
theorem AlX.some {K : PySem.W.Frag} {H : Hp} {ks : List (List Int × Rel)} {es : List DEnt} (h : AlX K H ks es) (k : List Int) : (getM es (ik k)).isSome = (getM ks k).isSome := by
  rcases h.val k with ⟨a, b⟩ | ⟨_, _, _, a, b, _⟩ <;> rw [a, b] <;> rfl
theorem AlX.put {K : PySem.W.Frag} {H : Hp} {ks : List (List Int × Rel)} {es : List DEnt} (h : AlX K H ks es) {k : List Int} {b : Addr} {r : Rel} {v : V} (hb : SqT K H b ((ik k).map kV)) (hv : r.p v H) :
    AlX K H (putM ks k r) (putE es (ik k) b v) := by
  unfold putM putE
  rw [h.some k]
  by_cases q : (getM ks k).isSome = true
  · rw [if_pos q, if_pos q]
    clear q
    induction h with
    | nil => exact .nil
    | @cons p q l1 l2 h t ih =>
      obtain ⟨h1, h0, h2⟩ := h
      rw [List.map_cons, List.map_cons]
      refine .cons ?_ ih
      by_cases e : p.1 = k
      · rw [if_pos e, if_pos (by rw [← h1, e])]
        exact ⟨h1, h0, hv⟩
      · rw [if_neg e, if_neg (fun z => e (ik_inj (h1.trans z)))]
        exact ⟨h1, h0, h2⟩
  · rw [if_neg q, if_neg q]
    rw [ik_kV] at hb
    exact Paired.snoc h ⟨rfl, hb, hv⟩
theorem AlX.length {K : PySem.W.Frag} {H : Hp} {ks : List (List Int × Rel)} {es : List DEnt} (h : AlX K H ks es) : es.length = ks.length := (Paired.length h).symm

/-- a dict that is read -/
def WpQ (B : Bd) (Γ : Ctx) (te : TE) (k : List (List Int × Rel) → Prop) : Prop :=
  ∀ σ H, Env B Γ σ H → ∀ Q : VK, (∀ ks a es H', k ks → Rd H' a (DXO B.P B.w a es) → AlX B.K H' ks es → Same H H' → Q (.ref a) H') → te σ H Q
section
variable {B : Bd} {Γ : Ctx} {ta tb tc te td ty tv tz : TE} {k : Rel → Prop} {D : Ends}
theorem Same.rd {H H' : Hp} {a : Addr} {u : HO} (e : Same H H') (h : Rd H a u) : Rd H' a u := by
  rcases h with h | ⟨o, h⟩
  · exact .inl (e _ _ h)
  · exact .inr ⟨o, e _ _ h⟩
theorem wq_var {i : Nat} {ks : List (List Int × Rel)} {kq : List (List Int × Rel) → Prop} (h : Γ[i]? = some (.mx ks)) (q : kq ks) : WpQ B Γ (tVar i) kq := fun σ H E Q hQ => by
  obtain ⟨ov, h1, l, es, rfl, h0, hl, hal⟩ := E.ty i _ h
  exact ⟨_, h1, hQ ks l es H q (.inl hl) hal (Same.refl H)⟩
theorem wq_e {kq : List (List Int × Rel) → Prop} (h : WpE B Γ te fun r => ∃ ks, r = rDct B.P B.w B.K ks ∧ kq ks) : WpQ B Γ te kq := fun σ H E Q hQ =>
  h σ H E _ fun r v H1 ⟨ks, er, hk⟩ p e => by
    subst er
    obtain ⟨a, o, es, rfl, ha, hal⟩ := p
    exact hQ ks a es H1 hk (.inr ⟨o, ha⟩) hal e
theorem wx_new {kx : List (List Int × Rel) → Prop} (q : kx []) : WpX B Γ (tXNew B.P B.w) kx := fun σ H E Q hQ p hp =>
  hQ [] p [] _ q hp (Same.new hp) upd_same .nil
theorem we_xget (h : WpQ B Γ td fun ks => WpE B Γ ty fun r => ∃ kk rv, r = rKey B.K kk ∧ getM ks kk = some rv ∧ k rv) : WpE B Γ (tXGet B.P B.w B.K td ty) k := fun σ H E Q hQ =>
  h σ H E _ fun ks a es H1 h1 ra hal e1 => h1 σ H1 (E.mono e1) _ fun r v H2 ⟨kk, rv, er, hg, hk⟩ p e2 => by
    subst er
    obtain ⟨b, rfl, hb⟩ := rKey_at p
    have hal2 := hal.st (Same.im e2)
    rcases hal2.val kk with ⟨n, _⟩ | ⟨r', b', v', g1, g2, pv⟩
    · rw [hg] at n; cases n
    · rw [hg] at g1
      cases g1
      exact ⟨a, es, b, ik kk, v', rfl, Same.rd e2 ra, hal2.keys, rfl, hb, by rw [g2]; rfl, hQ _ _ _ hk pv (Same.trans e1 e2)⟩
theorem we_xin (h : WpE B Γ ty fun r => ∃ kk, r = rKey B.K kk ∧ WpQ B Γ td fun ks => k (rBl (getM ks kk).isSome)) : WpE B Γ (tXIn B.P B.w B.K ty td) k := fun σ H E Q hQ =>
  h σ H E _ fun r v H1 ⟨kk, er, h1⟩ p e1 => h1 σ H1 (E.mono e1) _ fun ks a es H2 hk ra hal e2 => by
    subst er
    obtain ⟨b, rfl, hb⟩ := rKey_at (Rel.st _ (Same.im e2) p)
    refine ⟨a, es, b, ik kk, rfl, ra, hal.keys, rfl, hb, ?_⟩
    rw [hal.some kk]
    exact hQ _ _ _ hk rfl (Same.trans e1 e2)
theorem we_xnotin (h : WpE B Γ ty fun r => ∃ kk, r = rKey B.K kk ∧ WpQ B Γ td fun ks => k (rBl (!(getM ks kk).isSome))) : WpE B Γ (tXNotIn B.P B.w B.K ty td) k := fun σ H E Q hQ =>
  h σ H E _ fun r v H1 ⟨kk, er, h1⟩ p e1 => h1 σ H1 (E.mono e1) _ fun ks a es H2 hk ra hal e2 => by
    subst er
    obtain ⟨b, rfl, hb⟩ := rKey_at (Rel.st _ (Same.im e2) p)
    refine ⟨a, es, b, ik kk, rfl, ra, hal.keys, rfl, hb, ?_⟩
    rw [hal.some kk]
    exact hQ _ _ _ hk rfl (Same.trans e1 e2)
theorem we_xget2 (h : WpQ B Γ td fun ks => WpE B Γ ty fun r => ∃ kk, r = rKey B.K kk ∧ WpE B Γ tz fun rz => k ((getM ks kk).getD rz)) : WpE B Γ (tXGet2 B.P B.w B.K td ty tz) k := fun σ H E Q hQ =>
  h σ H E _ fun ks a es H1 h1 ra hal e1 => ⟨a, es, rfl, ra, hal.keys, h1 σ H1 (E.mono e1) _ fun r v H2 ⟨kk, er, h2⟩ p e2 => h2 σ H2 (E.mono (Same.trans e1 e2)) _ fun rz z H3 hk pz e3 => by
    subst er
    have e13 : Same H H3 := Same.trans e1 (Same.trans e2 e3)
    obtain ⟨b, rfl, hb⟩ := rKey_at (Rel.st _ (Same.im e3) p)
    have hal3 := hal.st (Same.im (Same.trans e2 e3))
    refine ⟨es, b, ik kk, Same.rd (Same.trans e2 e3) ra, hal3.keys, rfl, hb, ?_⟩
    rcases hal3.val kk with ⟨n1, n2⟩ | ⟨r', b', v', g1, g2, pv⟩
    · rw [n2]
      rw [n1] at hk
      exact hQ _ _ _ hk pz e13
    · rw [g2]
      rw [g1] at hk
      exact hQ _ _ _ hk pv e13⟩
/-- len(d) -/
theorem we_xlen (h : WpQ B Γ td fun ks => k (rInt ks.length)) : WpE B Γ (tCB (rXLen B.P B.w B.K) (tCons td tNil)) k := fun σ H E Q hQ =>
  h σ H E _ fun ks a es H1 hk ra hal e1 => ⟨a, es, rfl, ra, hal.keys, by rw [hal.length]; exact hQ _ _ _ hk rfl e1⟩
theorem ws_xput {i : Nat} {ks : List (List Int × Rel)} {t : TS} (hi : Γ[i]? = some (.mx ks)) (h : WpE B Γ tv fun rv => WpE B Γ ty fun r => ∃ kk, r = rKey B.K kk ∧ ks.length < sizeLine ∧ WpS B D (Γ.set i (.mx (putM ks kk rv))) t) :
    WpS B D Γ (tSeq (sXPut B.P B.w B.K (tVar i) ty tv) t) := fun σ H E =>
  h σ H E _ fun rv v H1 h1 pv e1 => by
    obtain ⟨ov, h2, l, es, rfl, h0, hl, hal⟩ := E.ty i _ hi
    refine ⟨_, h2, h1 σ H1 (E.mono e1) _ fun r y H3 ⟨kk, er, hz, q⟩ p e3 => ?_⟩
    subst er
    obtain ⟨b, rfl, hb⟩ := rKey_at p
    have e13 : Same H H3 := Same.trans e1 e3
    have hal3 := hal.st (Same.im e13)
    have hl3 := e13 _ _ hl
    refine ⟨l, es, b, ik kk, rfl, hl3, hal3.keys, rfl, hb, by rw [hal.length]; exact hz, ?_⟩
    exact q _ _ ((E.mono e13).chg hi rfl h2 hl3 dx_c h0 ⟨l, _, rfl, h0, upd_same, AlX.st (Im.upd hl3 dx_c) (hal3.put hb (Rel.st _ (Same.im e3) pv))⟩)
end
end BX
set_option Elab.async false
set_option linter.all false
set_option maxRecDepth 100000
set_option maxHeartbeats 1000000
/-! BXf: walks over dicts whose keys are tuples of ints; sorted, list of items, dict of pairs. -/
namespace BX
open PySem PySem.Spec PyProof.Rows L2

section
variable {X : Cx} {pins : List (Addr × Obj)} {σ : L2.St} {H : Hp} {s : Shared} {d : Addr} {o : Obj} {es : List DEnt}
theorem pget2 {α β : Type} {G : α → β → Prop} {l₁ : List α} {l₂ : List β} (h : Paired G l₁ l₂) {i : Nat} {a : α} (e : l₁[i]? = some a) : ∃ b, l₂[i]? = some b ∧ G a b := paired_get h e
/-- the raw entries -/
theorem x_raw {es : List DEnt} (I : Inv X pins σ H s) (g : Rd H d (DXO X.prog X.w d es)) : (d == sysModules) = false ∧ es.length ≤ sizeLine ∧ ∃ (ob : Obj) (os : Array DictEntry) (ep : Nat), s.heap.get? d = some ob ∧ ob.ExactDict ∧ ob.data = .dict os ep ∧ os.size = es.length ∧
    ∀ (i : Nat) (e : DEnt), es[i]? = some e → ∃ en : DictEntry, os[i]? = some en ∧ en.key = .ref e.2.1 ∧ RelV e.2.2 en.val := by
  have x : ObjOk X.prog X.w H s.heap d (.ext (dxφ X.prog X.w d es)) := g.ok I.hok
  obtain ⟨⟨z, y, xs, r, ob, os, ep, h1, h2, h3, h4, h5⟩, _⟩ := x
  refine ⟨y, z, ob, os, ep, h1, h2, h3, ?_, fun i e he => ?_⟩
  · have l1 : os.size = xs.length := size_of_entries h4
    have l2 : es.length = xs.length := Paired.length r
    omega
  · obtain ⟨b, hb, _, e2, e3⟩ := pget2 r he
    have q := entry_at h4 i
    rw [hb] at q
    exact ⟨_, q, congrArg Value.ref e2.symm, e3⟩
theorem x_frz (I : Inv X pins σ H s) (h : H d = some (.frz o (DXO X.prog X.w d es))) :
    (d == sysModules) = false ∧ s.heap.get? d = some o ∧ o.ExactDict ∧ ∃ (os : Array DictEntry) (ep : Nat), o.data = .dict os ep ∧ os.size = es.length ∧
      ∀ (i : Nat) (e : DEnt), es[i]? = some e → ∃ en : DictEntry, os[i]? = some en ∧ en.key = .ref e.2.1 ∧ RelV e.2.2 en.val := by
  obtain ⟨y, z, ob, os, ep, h1, h2, h3, h4, h5⟩ := x_raw I (.inr ⟨o, h⟩)
  have hd : s.heap.get? d = some o := (I.hok d _ h).1
  rw [hd] at h1
  cases h1
  exact ⟨y, hd, h2, os, ep, h3, h4, h5⟩
end

/-- the keys of the locked dict: their own tuples -/
def Itx (P : Program) (w : World) (d : Addr) (o : Obj) (es : List DEnt) : It :=
  ⟨fun i H => H d = some (.frz o (DXO P w d es)) ∧ i < es.length, fun i H x H' => H' = H ∧ ∃ e, es[i]? = some e ∧ x = .ref e.2.1, fun i H => H d = some (.frz o (DXO P w d es)) ∧ es.length ≤ i⟩
theorem walk_x {P : Program} {w : World} {d : Addr} {o : Obj} {es : List DEnt} : Walk (Itx P w d o es) es.length (fun H => H d = some (.frz o (DXO P w d es))) (fun i H x H' => H' = H ∧ ∃ e, es[i]? = some e ∧ x = .ref e.2.1) :=
  ⟨fun _ _ hi q => ⟨q, hi⟩, fun _ q => ⟨q, Nat.le_refl _⟩, fun _ _ _ _ _ _ y => y⟩
section
variable {P : Program} {w : World} {K : PySem.W.Frag} {tg : Expr} {d : Addr} {o : Obj} {os : Array DictEntry} {ep : Nat}
theorem turn_x {es : List DEnt} (it : Addr) (hod : o.data = .dict os ep) : Turn P w K tg (Itx P w d o es) [it] it (fun i h => h.IsKeyIter it d i es.length ep) where
  mem := by simp
  obj := fun i h st b hb => by
    have e : b = it := by simpa using hb
    subst e
    obtain ⟨oi, e, c, dd⟩ := st
    exact ⟨oi, e, fun v z => by rw [dd] at z; cases z⟩
  keep := fun i h h' st k => st.at fun oi e => k it (by simp) oi e
  item := by
    intro X hP hw hK hc i pins s σ H E I hf st hg
    subst hP hw hK
    obtain ⟨hd, hi⟩ := hg
    obtain ⟨f0, f1, f2, f3, f4, f5⟩ := hf it (by simp)
    obtain ⟨hs, hgd, hx, os', ep', hdt, hsz, ent⟩ := x_frz I hd
    obtain ⟨rfl, rfl⟩ := dict_ep hod hdt
    obtain ⟨e1, he1⟩ : ∃ p, es[i]? = some p := ⟨es[i], List.getElem?_eq_getElem hi⟩
    obtain ⟨en, hen, hkey, _⟩ := ent i e1 he1
    refine next_key_item st hgd hdt hsz hen fun h' st' sb => ?_
    have I1 : Inv X pins σ H { s with heap := h' } := I.turned (t' := s.toks) (fun b ob hb e => (sb.2 b hb).trans e) f0 f1 f3 f4 f5
    obtain ⟨oi, e, c, dd⟩ := id st'
    exact ⟨en.key, rfl, go_of (s := { s with heap := h' }) e c dd (by decide) ⟨.ref e1.2.1, H, I1, hkey, ⟨rfl, e1, he1, rfl⟩, st', fun b hb => (hf b hb).1⟩⟩
  done := by
    intro X hP hw hK hc i pins s σ H E I hf st hg
    subst hP hw hK
    obtain ⟨hd, hi⟩ := hg
    obtain ⟨f0, f1, f2, f3, f4, f5⟩ := hf it (by simp)
    obtain ⟨hs, hgd, hx, os', ep', hdt, hsz, ent⟩ := x_frz I hd
    obtain ⟨rfl, rfl⟩ := dict_ep hod hdt
    exact next_key_end (I.ok.hd hc) st hgd hdt hsz hi fun h' eb => ⟨rfl, I.turned (t' := s.toks) (fun b ob hb e => eb b ob hb e) f0 f1 f3 f4 f5⟩
  self := fun A i s Q E st h => by
    refine wpAny_pyIter_slot st.typeIs F.slot_dict_keyiterator_iter (wpAny_call_entry F.slot_dict_keyiterator_iter st.typeIs F.entry_dict_keyiterator_iter ?_ (F.args_dict_keyiterator_iter_1 _))
    show wpAny _ _ (ret (.ref it)) _ _ s
    exact wpAny_pure ⟨_, rfl, "dict_keyiterator", _, st.typeIs, F.slot_dict_keyiterator_next.lookup, h⟩
end
def iXKeys (P : Program) (w : World) (td : TE) : TI := fun σ H R => td σ H fun x H1 => ∃ d o es, x = .ref d ∧ H1 d = some (.frz o (DXO P w d es)) ∧ R (Itx P w d o es) H1
theorem pi_xkeys {X : Cx} {tg e : Expr} {td : TE} (he : PE X e td) : PI X tg e (iXKeys X.prog X.w td) := by
  refine ⟨fun pins s σ H R I h => ?_⟩
  refine thn (he.run pins s σ H _ I h) fun u s1 ⟨x, H1, I1, rx, d, o, es, ex, hd, q⟩ => ?_
  subst ex
  obtain rfl : u = Value.ref d := rx
  obtain ⟨hs, hgd, hx, os, ep, hdt, hsz, ent⟩ := x_frz I1 hd
  refine iter_keys hs hgd hx hdt (pi_one (tk := s1.toks) I1 _ (turn_x _ hdt) ⟨_, Heap.get?_push_size _ rfl, rfl, ?_⟩ q)
  rw [hsz] <;> rfl
theorem wi_xkeys {B : Bd} {Γ : Ctx} {te : TE} {k : Nat → (Nat → Rel) → Prop} (h : WpE B Γ te fun r => ∃ ks, r = rDct B.P B.w B.K ks ∧ k ks.length fun i => rKey B.K ((ks.map (·.1)).getD i [])) : WpI B Γ (iXKeys B.P B.w te) k := fun σ H E R hR =>
  h σ H E _ fun r v H1 ⟨ks, er, hk⟩ p e => by
    subst er
    obtain ⟨a, o, es, rfl, ha, hal⟩ := p
    refine ⟨a, o, es, rfl, ha, ?_⟩
    have w : Walk (Itx B.P B.w a o es) ks.length (fun H => H a = some (.frz o (DXO B.P B.w a es)) ∧ AlX B.K H ks es) (fun i H x H' => H' = H ∧ ∃ e, es[i]? = some e ∧ x = .ref e.2.1) := by
      rw [← hal.length]
      exact walk_x.mono (fun _ z => z.1) fun _ _ _ _ _ _ y => y
    refine hR _ _ _ _ _ H1 hk e w ⟨ha, hal⟩ (fun H1 H2 im z => ⟨im _ _ frz_nc z.1, z.2.st im⟩) fun i H1 x H2 hi z y => ?_
    obtain ⟨rfl, e1, he1, rfl⟩ := y
    refine ⟨Same.refl _, ?_⟩
    obtain ⟨p1, hp1, q⟩ : ∃ p1, ks[i]? = some p1 ∧ SqT B.K H2 e1.2.1 (p1.1.map V.int) := by
      have hl : i < ks.length := hi
      obtain ⟨b, hb, q1, q2, q3⟩ := pget2 z.2 (List.getElem?_eq_getElem hl)
      rw [he1] at hb
      cases hb
      exact ⟨_, List.getElem?_eq_getElem hl, q2⟩
    have e2 : (ks.map (·.1)).getD i [] = p1.1 := by rw [List.getD_eq_getElem?_getD, List.getElem?_map, hp1]; rfl
    rw [e2]
    exact rKey_of q

/-! ### sorted(d) -/
def keyD (k : List Int) : PyData := .tuple (k.map .int)
def keyLe (a b : List Int) : Bool := decide (a ≤ b)
theorem dataLe_key {β : Type} (x : β → List Int) : PySem.W.dataLe false (fun b => keyD (x b)) = fun p q => keyLe (x p) (x q) := by
  funext p q
  show (!PySem.W.dataLt (.tuple ((x q).map .int)) (.tuple ((x p).map .int))) = _
  rw [PySem.W.dataLt_tuple]
  show (!PySem.W.rowLt ((x q).map .int) ((x p).map .int)) = _
  rw [PySem.W.dataLt_ints]
  unfold keyLe
  by_cases h : x q < x p
  · have h' : ¬ x p ≤ x q := fun r => List.not_lt.mpr r h
    simp [h, h']
  · have h' : x p ≤ x q := List.not_lt.mp h
    simp [h, h']
theorem reads_ints {h : Heap} : ∀ {k : List Int} {us : List Value}, Vals (k.map V.int) us → ReadsAll h us (k.map .int) []
  | [], _, r => by cases r; exact .nil
  | i :: k, _, r => by
    cases r with
    | @cons a b as bs h1 t =>
      obtain ⟨tk, rfl⟩ := h1
      exact ReadsAll.cons (as := []) (bs := []) (.int i tk) (reads_ints t)
theorem reads_key {X : Cx} {pins : List (Addr × Obj)} {σ : L2.St} {H : Hp} {s : Shared} (I : Inv X pins σ H s) {k : List Int} {b : Addr} (h : SqT X.K H b (k.map V.int)) : Reads s.heap (.ref b) (keyD k) [] := by
  obtain ⟨its, r, ⟨o, h1, h2, n, h3⟩, _⟩ := I.tuple h
  exact .tuple h1 h2 h3 (by simpa using reads_ints r)
def rXSorted (P : Program) (w : World) (K : PySem.W.Frag) : List V → Hp → VK → Prop := fun xs H Q => ∃ (a : Addr) (es : List DEnt) (bs : List (List Int × Addr)), xs = [.ref a] ∧ Rd H a (DXO P w a es) ∧ es.map (fun e => e.2.1) = bs.map (·.2) ∧ (∀ z ∈ bs, z.1 ≠ [] ∧ SqT K H z.2 (z.1.map V.int)) ∧
  ∀ p out, H p = none → out = bs.mergeSort (fun x y => keyLe x.1 y.1) → Q (.ref p) (upd H p (.lst (out.map fun z => V.ref z.2)))
theorem each_refs {R : Value → List Int × Addr → Prop} : ∀ (bs : List (List Int × Addr)), (∀ z ∈ bs, R (.ref z.2) z) → PySem.W.EachIs R (bs.map fun z => Value.ref z.2) bs
  | [], _ => .nil
  | z :: bs, h => .cons (h z (List.mem_cons_self ..)) (each_refs bs fun y hy => h y (List.mem_cons_of_mem _ hy))
theorem each_out : ∀ {vs : List Value} {bs : List (List Int × Addr)}, PySem.W.EachIs (fun v z => v = Value.ref z.2) vs bs → vs = bs.map fun z => Value.ref z.2
  | _, _, .nil => rfl
  | _, _, .cons h t => by rw [h, each_out t]; rfl
theorem cr_xsorted {X : Cx} (hcalm : X.calm = true) (hu : X.A.units + 64 < cLine) : CallR X (.builtin "sorted") (rXSorted X.prog X.w X.K) := by
  intro pins s σ H xs us Q I r ⟨a, es, bs, ex, g, hbs, hk, q⟩
  subst ex
  obtain ⟨u, eu, rx⟩ := vals1 r
  subst eu
  cases rx
  obtain ⟨lo, z, ob, os, ep, h1, h2, h3, h4, h5⟩ := x_raw I g
  have hl : bs.length = es.length := by
    have e := congrArg List.length hbs
    rw [List.length_map, List.length_map] at e
    exact e.symm
  refine Calls.call_function_entry PyProof.Rows.kind_sorted PyProof.Rows.plain_sorted PyProof.Rows.entry_sorted (PyProof.Rows.args_sorted1 _) ?_
  unfold Builtin.«sorted»
  refine wpAny_bind (m := checkCount "sorted" 1 1 _) (wpAny_pure ?_)
  refine wpAny_bind (PySem.W.kdu_collect (A := X.A.in1) (KdlSrc.rawDict (es := os) (ep := ep) lo) (I.ok.hd hcalm) ⟨ob, h1, h2, h3⟩ (by omega) fun h' tk acc hk' hacc => ?_)
  have hal : acc.toList = bs.map fun z => Value.ref z.2 := by
    apply List.ext_getElem?
    intro j
    rw [Array.getElem?_toList, List.getElem?_map]
    cases hb : bs[j]? with
    | none =>
      rw [Array.getElem?_eq_none (by rw [hacc.1, h4, ← hl]; exact List.getElem?_eq_none_iff.mp hb)]
      rfl
    | some zb =>
      have hj : j < bs.length := (List.getElem?_eq_some_iff.mp hb).1
      have hja : j < acc.size := by rw [hacc.1, h4, ← hl]; exact hj
      obtain ⟨hi, hv⟩ := hacc.2 j _ (Array.getElem?_eq_getElem hja)
      obtain ⟨e, he⟩ : ∃ e, es[j]? = some e := ⟨es[j]'(by omega), List.getElem?_eq_getElem _⟩
      obtain ⟨en, hen, hkey, _⟩ := h5 j e he
      have e1 : e.2.1 = zb.2 := by
        have q := congrArg (fun l => l[j]?) hbs
        simp only [List.getElem?_map, he, hb, Option.map_some, Option.some.injEq] at q
        exact q
      rw [Array.getElem?_eq_getElem hja, hv]
      rw [Array.getElem?_eq_getElem hi] at hen
      cases hen
      rw [hkey, e1]
      rfl
  have I1 : Inv X pins σ H { s with heap := h', toks := tk } := I.kept hk'
  refine wpAny_bind (wpAny_newList ?_ (by rw [hal, List.length_map]; omega))
  have hoL : (h'.push (seqObj "list" acc.toList.toArray 0)).get? h'.objs.size = some (seqObj "list" acc.toList.toArray 0) := Heap.get?_push_size _ rfl
  have I2 : Inv X pins σ H { s with heap := h'.push (seqObj "list" acc.toList.toArray 0), toks := tk } := I1.kept (t' := tk) fun b u e => Heap.get?_push_of_some _ e
  show wpAny _ _ _ _ _ { s with heap := h'.push (seqObj "list" acc.toList.toArray 0), toks := tk }
  rw [hal] at hoL I2 ⊢
  refine wpAny_bind (wpAny_holding (PySem.W.list_sort_data (s := { s with heap := h'.push (seqObj "list" (bs.map fun z => Value.ref z.2).toArray 0), toks := tk }) (R := fun v z => v = Value.ref z.2) (enc := fun z => keyD z.1) hoL (each_refs bs fun _ _ => rfl)
    (each_refs bs fun z hz => ⟨[], reads_key I2 (hk z hz).2, by simp⟩) (PySem.W.AllAlike.of fun b b' => ?_) (.inl fun d hd => ?_) (by omega) (fun b hb => ?_) fun out ho eo => ?_))
  · show PySem.W.alike (.tuple (b.1.map .int)) (.tuple (b'.1.map .int)) = true
    rw [PySem.W.alike]
    exact PySem.W.alike_ints _ _
  · obtain ⟨b, hb, rfl⟩ := List.mem_map.mp hd
    obtain ⟨k, ha⟩ := b
    cases k with
    | nil => exact absurd rfl (hk _ hb).1
    | cons i k => exact ⟨_, _, rfl⟩
  · show X.A.in1.units + 1 + (PyData.tuple (b.1.map .int)).depth < cLine
    rw [PyData.depth, PySem.W.depth_ints]
    show X.A.units + 1 + 1 + _ < cLine
    omega
  · rw [dataLe_key] at eo
    obtain ⟨e', he'⟩ := PyProof.Rows.sortedHeap_at (vs := bs.map fun z => Value.ref z.2) (out := out.toArray) hoL
    have eo' := each_out eo
    have hlen : ((bs.mergeSort fun x y => keyLe x.1 y.1).map fun z => V.ref z.2).length ≤ sizeLine := by
      rw [List.length_map, List.length_mergeSort]
      omega
    refine wpAny_pure ⟨_, rfl, .ref h'.objs.size, upd H h'.objs.size (.lst ((bs.mergeSort fun x y => keyLe x.1 y.1).map fun z => V.ref z.2)), I1.laid (t' := tk) (fun b u e => ?_) (Nat.le_refl _)
      (show ObjOk X.prog X.w _ _ _ (.lst _) from ⟨hlen, out, e', ?_, he'⟩), rfl, q _ _ (I1.hok.fresh (Nat.le_refl _)) rfl⟩
    · have hb : b < h'.objs.size := Heap.lt_size e
      rw [PyProof.Rows.sortedHeap_old (Nat.ne_of_lt hb) (by rw [size_push']; exact Nat.lt_succ_of_lt hb)]
      exact Heap.get?_push_of_some _ e
    · rw [eo']
      generalize (bs.mergeSort fun x y => keyLe x.1 y.1) = l
      clear eo' eo
      induction l with
      | nil => exact .nil
      | cons z l ih => exact .cons rfl ih
theorem alx_bs {K : PySem.W.Frag} {H : Hp} {ks : List (List Int × Rel)} {es : List DEnt} (h : AlX K H ks es) : ∃ bs : List (List Int × Addr), es.map (fun e => e.2.1) = bs.map (·.2) ∧ bs.map (·.1) = ks.map (·.1) ∧ ∀ z ∈ bs, SqT K H z.2 (z.1.map V.int) := by
  induction h with
  | nil => exact ⟨[], rfl, rfl, fun _ h => nomatch h⟩
  | @cons p q l1 l2 h t ih =>
    obtain ⟨bs, h1, h2, h3⟩ := ih
    refine ⟨(p.1, q.2.1) :: bs, by rw [List.map_cons, List.map_cons, h1], by rw [List.map_cons, List.map_cons, h2], fun z hz => ?_⟩
    rcases List.mem_cons.mp hz with e | hz
    · subst e; exact h.2.1
    · exact h3 z hz
theorem wl_xsorted {B : Bd} {Γ : Ctx} {td : TE} {kl : List Rel → Prop} (h : WpQ B Γ td fun ks => (∀ p ∈ ks, p.1 ≠ []) ∧ kl (((ks.map (·.1)).mergeSort keyLe).map (rKey B.K))) : WpL B Γ (tCB (rXSorted B.P B.w B.K) (tCons td tNil)) kl := fun σ H E Q hQ =>
  h σ H E _ fun ks a es H1 ⟨hne, hk⟩ ra hal e1 => by
    obtain ⟨bs, b1, b2, b3⟩ := alx_bs hal
    refine ⟨a, es, bs, rfl, ra, b1, fun z hz => ⟨?_, b3 z hz⟩, fun p out hp ho => ?_⟩
    · have m : z.1 ∈ ks.map (·.1) := by rw [← b2]; exact List.mem_map_of_mem hz
      obtain ⟨p, hp, e⟩ := List.mem_map.mp m
      rw [← e]
      exact hne p hp
    · refine hQ _ p _ _ hk (Same.free e1 hp) (Same.trans e1 (Same.new hp)) upd_same ?_
      have e2 : (ks.map (·.1)).mergeSort keyLe = out.map (·.1) := by
        rw [← b2, ho]
        exact (List.map_mergeSort (r := fun x y : List Int × Addr => keyLe x.1 y.1) (s := keyLe) (f := fun z => z.1) (fun _ _ _ _ => rfl)).symm
      rw [e2]
      have ms : ∀ z ∈ out, SqT B.K (upd H1 p (.lst (out.map fun z => V.ref z.2))) z.2 (z.1.map V.int) := fun z hz => sqT_im (Same.im (Same.new hp)) (b3 z (by rw [ho] at hz; exact List.mem_mergeSort.mp hz))
      generalize upd H1 p (.lst (out.map fun z => V.ref z.2)) = H2 at ms
      clear e2 ho
      induction out with
      | nil => exact .nil
      | cons z out ih => exact .cons (rKey_of (ms z (List.mem_cons_self ..))) (ih fun y hy => ms y (List.mem_cons_of_mem _ hy))
end BX
set_option Elab.async false
set_option linter.all false
set_option maxRecDepth 100000
set_option maxHeartbeats 1000000
/-! BXg: list(d.items()), dict(pairs), displays, comprehensions, == of dicts whose keys are tuples of ints. -/
namespace BX
open PySem PySem.Spec PyProof.Rows L2

/-! ### list(d.items()) -/
def tXItems (P : Program) (w : World) (K : PySem.W.Frag) (td : TE) : TE := fun σ H Q => td σ H fun x H1 => ∃ a es, x = .ref a ∧ Rd H1 a (DXO P w a es) ∧ KeysAt K H1 es ∧ ∀ p, H1 p = none → Q (.ref p) (upd H1 p (L2.DX.itemsO p a))
theorem pe_xitems {X : Cx} {o : Expr} {to : TE} {apos cpos : Pos} (ho : PE X o to)
    (hbase : attributeBase o "items" X.env (eval o X.env) = eval o X.env := by rfl) (hline : (apos.endLine == cpos.line) = true := by rfl) : PE X (.Call (.Attribute o "items" apos) [] [] cpos) (tXItems X.prog X.w X.K to) := by
  refine ⟨fun pins s σ H Q I h => ?_⟩
  refine wpAny_Call_method0_late hbase hline (thn (ho.run pins s σ H _ I h) fun v s1 ⟨x, H1, I1, r1, a, es, ex, g, ka, q⟩ => ?_)
  subst ex
  obtain rfl : v = Value.ref a := r1
  obtain ⟨y, z, ob, os, ep, h1, h2, h3, h4, h5⟩ := x_raw I1 g
  refine ⟨"dict", "dict.items", PySem.F.plainAttrs_dict, PySem.F.slot_dict_items, PySem.F.type_dict_items, x_typeIs I1 ⟨g, ka⟩, x_noDict I1 ⟨g, ka⟩, Calls.callWith_builtin rfl (PySem.evalArgs_none ?_)⟩
  refine DT.callItems (es := os) (ep := ep) y ⟨ob, h1, h2, h3⟩ ?_
  exact ⟨.ref s1.heap.objs.size, upd H1 s1.heap.objs.size (L2.DX.itemsO s1.heap.objs.size a), I1.laid (t' := s1.toks) (fun b u e => Heap.get?_push_of_some _ e) (Nat.le_refl _) (L2.DX.itemsO_ok (Heap.get?_push_size _ rfl)), rfl, q _ (I1.hok.fresh (Nat.le_refl _))⟩
def rXItemsList (P : Program) (w : World) : List V → Hp → VK → Prop := fun xs H Q => ∃ (p a : Addr) (es : List DEnt), xs = [.ref p] ∧ H p = some (L2.DX.itemsO p a) ∧ Rd H a (DXO P w a es) ∧
  ∀ (H' : Hp) (l : Addr) (as : List Addr), Same H H' → H l = none → as.length = es.length → H' l = some (.lst (as.map V.ref)) → (∀ (j : Nat) b e, as[j]? = some b → es[j]? = some e → H' b = some (.tup [.ref e.2.1, e.2.2])) → Q (.ref l) H'
theorem cr_xitems {X : Cx} (hc : X.calm = true) : CallR X (.type "list") (rXItemsList X.prog X.w) := by
  intro pins s σ H xs us Q I r ⟨p, a, es, ex, hp, g, q⟩
  subst ex
  obtain rfl := Vals.ref1 r
  have view : s.heap.IsItemsView p a := (show ObjOk X.prog X.w H s.heap p (L2.DX.itemsO p a) from I.hok p _ hp).1
  obtain ⟨y, z, ob, os, ep, h1, h2, h3, h4, h5⟩ := x_raw I g
  refine PySem.W.dil_call (I.ok.hd hc) view ⟨ob, h1, h2, h3⟩ (by omega) fun h' tk acc c as hk hS hl hG hacc => ?_
  have nd : as.Nodup := List.Pairwise.imp (fun h => Nat.ne_of_lt h) hG.rise
  have hn0 : H s.heap.objs.size = none := I.hok.fresh (Nat.le_refl _)
  have hlen : (as.map V.ref).length ≤ sizeLine := by rw [List.length_map]; omega
  have I1 : Inv X pins σ (upd H s.heap.objs.size (.lst (as.map V.ref))) { s with heap := h', toks := tk } := I.laid (t' := tk) hk (Nat.le_refl _)
    (show ObjOk X.prog X.w _ _ _ (.lst (as.map V.ref)) from ⟨hlen, acc.toList, c, by rw [hacc]; exact vals_maps V.ref Value.ref as fun _ _ => rfl, by rw [Array.toArray_toList]; exact hS⟩)
  obtain ⟨H2, I2, gr, qt⟩ := L2.DX.takeT (P := fun b vs => ∃ (j : Nat) (e : DEnt), as[j]? = some b ∧ es[j]? = some e ∧ vs = [.ref e.2.1, e.2.2]) I as _ I1 nd fun b hb => by
    obtain ⟨j, hj⟩ := List.mem_iff_getElem?.mp hb
    have hlt : j < es.length := by
      have := (List.getElem?_eq_some_iff.mp hj).1
      omega
    obtain ⟨e, he⟩ : ∃ e, es[j]? = some e := ⟨es[j], List.getElem?_eq_getElem hlt⟩
    obtain ⟨en, hen, hkey, hv⟩ := h5 j e he
    obtain ⟨hj', hg⟩ := hG.pairs j b hj
    have hab : s.heap.objs.size < b := hG.above b hb
    refine ⟨Nat.le_of_lt hab, ?_, _, ⟨j, e, hj, he, rfl⟩, fun H3 => ⟨by show 2 ≤ sizeLine; decide, [os[j].key, os[j].val], ?_, ⟨_, hg, rfl, 0, rfl⟩⟩⟩
    · rw [upd_ne (Nat.ne_of_gt hab)]
      exact I.hok.fresh (Nat.le_of_lt hab)
    · rw [Array.getElem?_eq_getElem hj'] at hen
      cases hen
      exact .cons hkey (.cons hv .nil)
  refine ⟨.ref s.heap.objs.size, H2, I2, rfl, q H2 _ as (fun b u e => gr b u (by rw [upd_ne (ne_of_none e hn0)]; exact e)) hn0 (by omega) (gr _ _ upd_same) fun j b e hj he => ?_⟩
  obtain ⟨vs, ⟨i, e', i1, i2, ev⟩, hH⟩ := qt b (List.mem_of_getElem? hj)
  have eij : i = j := (List.getElem?_inj (List.getElem?_eq_some_iff.mp i1).1 nd).mp (i1.trans hj.symm)
  subst eij
  rw [he] at i2
  cases i2
  rw [hH, ev]
abbrev rEnt (K : PySem.W.Frag) (p : List Int × Rel) : Rel := rTup K [rKey K p.1, p.2]
theorem al_of {H : Hp} : ∀ {rs : List Rel} {vs : List V}, rs.length = vs.length → (∀ (j : Nat) r v, rs[j]? = some r → vs[j]? = some v → r.p v H) → Al H rs vs
  | [], [], _, _ => .nil
  | r :: rs, v :: vs, hl, h => .cons (h 0 r v rfl rfl) (al_of (by simpa using hl) fun j r' v' e1 e2 => h (j + 1) r' v' (by simpa using e1) (by simpa using e2))
  | [], _ :: _, hl, _ => by simp at hl
  | _ :: _, [], hl, _ => by simp at hl
theorem wl_xitems {B : Bd} {Γ : Ctx} {td : TE} {kl : List Rel → Prop} (h : WpQ B Γ td fun ks => kl (ks.map (rEnt B.K))) : WpL B Γ (tCB (rXItemsList B.P B.w) (tCons (tXItems B.P B.w B.K td) tNil)) kl := fun σ H E Q hQ =>
  h σ H E _ fun ks a es H1 hk ra hal e1 => ⟨a, es, rfl, ra, hal.keys, fun p hp => ⟨p, a, es, rfl, upd_same, Same.rd (Same.new hp) ra, fun H' l as e2 hl hn hL hT => by
    have e12 : Same H1 H' := Same.trans (Same.new hp) e2
    refine hQ _ l _ H' hk (Same.free e1 (Same.free (Same.new hp) hl)) (Same.trans e1 e12) hL (al_of (by rw [List.length_map, List.length_map, hn]; exact hal.length.symm) fun j r v hr hv => ?_)
    rw [List.getElem?_map] at hr hv
    cases hk1 : ks[j]? with
    | none => rw [hk1] at hr; cases hr
    | some kr =>
      rw [hk1] at hr
      cases hr
      cases ha : as[j]? with
      | none => rw [ha] at hv; cases hv
      | some b =>
        rw [ha] at hv
        cases hv
        obtain ⟨e, he, q1, q2, q3⟩ := pget2 hal hk1
        exact ⟨b, _, rfl, .inl (.inl (hT j b e ha he)), .cons (rKey_of (sqT_im (Same.im e12) q2)) (.cons (Rel.st _ (Same.im e12) q3) .nil)⟩⟩⟩

/-! ### dict(pairs) -/
def foldE (es : List DEnt) : List DEnt := es.foldl (fun acc e => putE acc e.1 e.2.1 e.2.2) []
def foldM {α : Type} (ks : List (List Int × α)) : List (List Int × α) := ks.foldl (fun acc e => putM acc e.1 e.2) []
theorem foldE_len (es : List DEnt) : ∀ acc : List DEnt, (es.foldl (fun acc e => putE acc e.1 e.2.1 e.2.2) acc).length ≤ acc.length + es.length := by
  induction es with
  | nil => intro acc; exact Nat.le_refl _
  | cons e es ih =>
    intro acc
    have h1 := ih (putE acc e.1 e.2.1 e.2.2)
    have h2 := putE_len acc e.1 e.2.1 e.2.2
    show (es.foldl _ (putE acc e.1 e.2.1 e.2.2)).length ≤ _
    rw [List.length_cons]
    omega
def rXPairs (P : Program) (w : World) (K : PySem.W.Frag) : List V → Hp → VK → Prop := fun xs H Q => ∃ (l : Addr) (ts : List Addr) (es : List DEnt), xs = [.ref l] ∧ SqL K H l (ts.map V.ref) ∧ Paired (fun t (e : DEnt) => SqT K H t [.ref e.2.1, e.2.2] ∧ SqT K H e.2.1 (e.1.map kV)) ts es ∧
  ∀ p, H p = none → Q (.ref p) (upd H p (DXO P w p (foldE es)))
theorem EX.fold {es : List DEnt} {xs : List (List Key × Addr × Value)} (r : EX es xs) : ∀ {es0 : List DEnt} {xs0 : List (List Key × Addr × Value)}, EX es0 xs0 → EX (es.foldl (fun acc e => putE acc e.1 e.2.1 e.2.2) es0) (storedAllH xs0 xs) := by
  induction r with
  | nil => intro es0 xs0 h; exact h
  | @cons p q ps qs h t ih =>
    intro es0 xs0 h0
    refine ih ?_
    obtain ⟨h1, h2, h3⟩ := h
    show EX (putE es0 p.1 p.2.1 p.2.2) (storedH xs0 q.1 q.2.1 q.2.2)
    rw [← h1, ← h2]
    exact h0.put p.1 h3
theorem cr_xpairs {X : Cx} (hc : X.calm = true) (hu : X.A.units + 64 < cLine) : CallR X (.type "dict") (rXPairs X.prog X.w X.K) := by
  intro pins s σ H xs us Q I r ⟨l, ts, es, ex, hl, hp, q⟩
  subst ex
  obtain rfl := Vals.ref1 r
  obtain ⟨its, rv, ⟨ol, nl, hol, hcl, hdl, hdatl⟩, hz⟩ := I.list hl
  have ei := refs_at rv
  subst ei
  rw [List.length_map] at hz
  have build : ∀ {ts : List Addr} {es : List DEnt}, Paired (fun t (e : DEnt) => SqT X.K H t [.ref e.2.1, e.2.2] ∧ SqT X.K H e.2.1 (e.1.map kV)) ts es →
      ∃ ps : List (List Key × Addr × Value), EX es ps ∧ ps.length = ts.length ∧ (∀ x ∈ ps, (tupleKind (mixKind X.prog X.w)).is s.heap x.1 x.2.1) ∧ ∀ (j : Nat) x, ps[j]? = some x → ∃ t, ts[j]? = some t ∧ s.heap.IsTuple t #[.ref x.2.1, x.2.2] := by
    intro ts es h
    induction h with
    | nil => exact ⟨[], .nil, rfl, (by intro _ h; cases h), (by intro j x e; simp at e)⟩
    | @cons t e l1 l2 h tl ih =>
      obtain ⟨ps, h1, h2, h3, h4⟩ := ih
      obtain ⟨its, rv, ht, _⟩ := I.tuple h.1
      obtain ⟨u, y, ei, ru, ry⟩ := vals2 rv
      subst ei
      cases (show u = Value.ref e.2.1 from ru)
      refine ⟨(e.1, e.2.1, y) :: ps, .cons ⟨rfl, rfl, ry⟩ h1, by rw [List.length_cons, List.length_cons, h2], fun x hx => ?_, fun j x ej => ?_⟩
      · rcases List.mem_cons.mp hx with rfl | hx
        · exact keyK I.hok I.kIn h.2
        · exact h3 x hx
      · cases j with
        | zero =>
          simp at ej
          subst ej
          exact ⟨t, rfl, ht⟩
        | succ j => exact h4 j x (by simpa using ej)
  obtain ⟨ps, e1, e2, e3, e4⟩ := build hp
  have hpi : PairItems s.heap (ts.map Value.ref).toArray (fun j => ts.getD j 0) (ps.map fun x => (Value.ref x.2.1, x.2.2)) := by
    refine ⟨by simp [e2], fun j k v hj => ?_⟩
    rw [List.getElem?_map] at hj
    cases hx : ps[j]? with
    | none => rw [hx] at hj; cases hj
    | some x =>
      rw [hx] at hj
      cases hj
      obtain ⟨t, ht, it⟩ := e4 j x hx
      have eg : ts.getD j 0 = t := by rw [List.getD_eq_getElem?_getD, ht]; rfl
      refine ⟨?_, .inl ?_⟩
      · show (ts.map Value.ref).toArray[j]? = _
        simp [ht]
      · show s.heap.IsTuple (ts.getD j 0) _
        rw [eg]
        exact it
  refine call_dict_pairsH (knd := tupleKind (mixKind X.prog X.w)) (ps := ps) (PairArg.list l (ts.map Value.ref).toArray (fun j => ts.getD j 0) (ps.map fun x => (Value.ref x.2.1, x.2.2))) (I.ok.hd hc) (tupleKind_room_in1 (A := X.A.in1) (by show X.A.units + 1 + 1 < cLine; omega))
    ⟨⟨ol, nl, hol, hcl, hdl, hdatl⟩, hpi⟩ ⟨by rw [List.length_map], fun i key v hr => ?_⟩ (fun h' hk x hx => ?_) (by rw [List.length_map, e2]; exact hz) fun h' tk hd' hk => ?_
  · have hr' : (ps.map fun x => (Value.ref x.2.1, x.2.2))[i]? = some (key, v) := hr
    rw [List.getElem?_map] at hr'
    cases hx : ps[i]? with
    | none => rw [hx] at hr'; cases hr'
    | some x =>
      rw [hx] at hr'
      cases hr'
      exact ⟨x.1, x.2.1, rfl, rfl⟩
  · obtain ⟨o, items, n, ho, r⟩ := e3 x hx
    exact ⟨o, items, n, hk _ _ (Nat.ne_of_lt (Heap.lt_size ho)) (by simp) ho, r⟩
  · have hm : (s.heap.objs.size == sysModules) = false := beq_eq_false_iff_ne.mpr (Nat.ne_of_gt I.big)
    have hlen : (foldE es).length ≤ sizeLine := by
      have h1 := foldE_len es []
      have h2 : ts.length = es.length := Paired.length hp
      unfold foldE
      simp only [List.length_nil] at h1
      omega
    exact ⟨.ref s.heap.objs.size, upd H s.heap.objs.size (DXO X.prog X.w s.heap.objs.size (foldE es)), I.laid (t' := tk) (fun b o e => hk b o (by simp) e) (Nat.le_refl _) (dx_ok hlen hm (EX.fold e1 .nil) hd'), rfl, q _ (I.hok.fresh (Nat.le_refl _))⟩
theorem AlX.fold {K : PySem.W.Frag} {H : Hp} {ks : List (List Int × Rel)} {es : List DEnt} (h : AlX K H ks es) : ∀ {k0 : List (List Int × Rel)} {e0 : List DEnt}, AlX K H k0 e0 → AlX K H (ks.foldl (fun acc e => putM acc e.1 e.2) k0) (es.foldl (fun acc e => putE acc e.1 e.2.1 e.2.2) e0) := by
  induction h with
  | nil => intro k0 e0 h; exact h
  | @cons p q l1 l2 h t ih =>
    intro k0 e0 h0
    refine ih ?_
    obtain ⟨h1, h2, h3⟩ := h
    show AlX K H (putM k0 p.1 p.2) (putE e0 q.1 q.2.1 q.2.2)
    rw [← h1]
    exact h0.put (by rw [ik_kV]; exact h2) h3
theorem wx_xpairs {B : Bd} {Γ : Ctx} {te : TE} {kx : List (List Int × Rel) → Prop} (h : WpE B Γ te fun r => ∃ ks, r = rLst (ks.map (rEnt B.K)) ∧ kx (foldM ks)) : WpX B Γ (tCB (rXPairs B.P B.w B.K) (tCons te tNil)) kx := fun σ H E Q hQ =>
  h σ H E _ fun r v H1 ⟨ks, er, hk⟩ p e1 => by
    subst er
    obtain ⟨l, o, xs, rfl, hl, hal⟩ := p
    obtain ⟨ts, es, ex, hp, hx⟩ : ∃ (ts : List Addr) (es : List DEnt), xs = ts.map V.ref ∧ Paired (fun t (e : DEnt) => SqT B.K H1 t [.ref e.2.1, e.2.2] ∧ SqT B.K H1 e.2.1 (e.1.map kV)) ts es ∧ AlX B.K H1 ks es := by
      clear hk hl
      have key : ∀ {ks : List (List Int × Rel)} {xs : List V}, Al H1 (ks.map (rEnt B.K)) xs → ∃ (ts : List Addr) (es : List DEnt), xs = ts.map V.ref ∧ Paired (fun t (e : DEnt) => SqT B.K H1 t [.ref e.2.1, e.2.2] ∧ SqT B.K H1 e.2.1 (e.1.map kV)) ts es ∧ AlX B.K H1 ks es := by
        intro ks
        induction ks with
        | nil => intro xs h; cases h; exact ⟨[], [], rfl, .nil, .nil⟩
        | cons p ks ih =>
          intro xs h
          rw [List.map_cons] at h
          cases h with
          | cons h t =>
            obtain ⟨ts, es, e1, e2, e3⟩ := ih t
            obtain ⟨a, ys, rfl, hs, hy⟩ := h
            cases hy with
            | cons k1 t1 =>
              cases t1 with
              | cons k2 t2 =>
                cases t2
                obtain ⟨b, rfl, hb⟩ := rKey_at k1
                refine ⟨a :: ts, (ik p.1, b, _) :: es, by rw [List.map_cons, e1], .cons ⟨hs, hb⟩ e2, .cons ⟨rfl, by rw [ik_kV] at hb; exact hb, k2⟩ e3⟩
      exact key hal
    subst ex
    refine ⟨l, ts, es, rfl, .inl (.inr ⟨o, hl⟩), hp, fun p hp' => hQ _ p _ _ hk (Same.free e1 hp') (Same.trans e1 (Same.new hp')) upd_same ?_⟩
    exact AlX.st (Same.im (Same.new hp')) (AlX.fold hx .nil)
end BX
set_option Elab.async false
set_option linter.all false
set_option maxRecDepth 100000
set_option maxHeartbeats 1000000
/-! BXh: comprehensions, displays, == of dicts whose keys are tuples of ints. -/
namespace BX
open PySem PySem.Spec PyProof.Rows L2

theorem x_dictSet {X : Cx} {pins : List (Addr × Obj)} {σ : L2.St} {H : Hp} {s : Shared} {E : Value → Shared → Prop} {D b : Addr} {es : List DEnt} {k : List Key} {v : V} {u r : Value} {Q : Unit → Shared → Prop} (hu : X.A.units + 64 < cLine) (I : Inv X pins σ H s) (g : H D = some (DXO X.prog X.w D es)) (hk : KeysAt X.K H es) (hz : es.length < sizeLine)
    (kb : SqT X.K H b (k.map kV)) (ry : RelV (.ref b) u) (rv : RelV v r) (h : ∀ s', Inv X pins σ (upd H D (DXO X.prog X.w D (putE es k b v))) s' → Q () s') : wpAny (model X.prog X.w) X.A (dictSet D u r) Q E s := by
  obtain rfl : u = Value.ref b := ry
  obtain ⟨z, hd, xs, rel, dd⟩ := dx_rd I.hok I.kIn (.inl g) hk
  have hl : (putE es k b v).length ≤ sizeLine := by have := putE_len es k b v; omega
  refine wpAny_dictSet_heap (hsz := by rw [← Paired.length rel]; exact z) ((by show X.A.units < cLine; omega)) (keyK I.hok I.kIn kb) dd fun h' dd' hs => h _ ?_
  obtain ⟨q, os, ep, hq, h2⟩ := id dd'
  exact d_write I (by rw [g]; exact True.intro) hs ⟨q, hq⟩ (dx_ok hl hd (rel.put k rv) dd')
section
variable {X : Cx}
/-- {k: v for target in iter if ..} -/
def tXDc (P : Program) (w : World) (K : PySem.W.Frag) (wi : TI) (g : TG) (tt : TT) (tk tv : TE) (vs : List Nat) : TE := fun σ H Q => wi σ H fun J H1 => ∀ D, H1 D = none → ∃ W : Nat → Nat → Hp → Prop, (∃ m, W 0 m (upd H1 D (DXO P w D []))) ∧ ∀ i m H, W i m H →
  (J.stop i H ∧ Q (.ref D) H) ∨ (J.go i H ∧ ∃ Nx : Hp → Prop, (∀ H', Nx H' → ∃ m', m' < m ∧ W (i + 1) m' H') ∧ ∀ x H', J.yld i H x H' → g x (wipe σ vs) H' fun σ2 H2 => wipe σ2 vs = wipe σ vs ∧ tt σ2 H2 fun b H3 =>
    if b = true then tk σ2 H3 fun y H4 => tv σ2 H4 fun z H5 => ∃ es b k, y = .ref b ∧ SqT K H5 b (k.map kV) ∧ KeysAt K H5 es ∧ H5 D = some (DXO P w D es) ∧ es.length < sizeLine ∧ Nx (upd H5 D (DXO P w D (putE es k b z))) else Nx H3)
theorem xdc_core {pins : List (Addr × Obj)} {s : Shared} {σ : L2.St} {H : Hp} {Q : VK} {kx vx tg iter : Expr} {ifs : List Expr} {scope : Scope} {own : List (Str × Nat)} {pos pos' : Pos} {wi : TI} {g : TG} {tt : TT} {tk tv : TE} {use : Option (Value → Sem Unit)} {Qf : Value → Shared → Prop}
    (hu : X.A.units + 64 < cLine) (hc : X.calm = true) (hN : X.N.Nodup) (I : Inv X pins σ H s) (hi : PI X tg iter wi) (ok : BlkOk X.N X.env.scope scope own)
    (hg : ∀ (s : Shared) (H : Hp) (C : Addr) (cl : List (Str × Addr)) (fp : List Addr), PG (X.blk s H scope (compEnvC scope cl C X.env) fp) tg g) (ht : ∀ (s : Shared) (H : Hp) (C : Addr) (cl : List (Str × Addr)) (fp : List Addr), PTs (X.blk s H scope (compEnvC scope cl C X.env) fp) ifs tt)
    (hk : ∀ (s : Shared) (H : Hp) (C : Addr) (cl : List (Str × Addr)) (fp : List Addr), PE (X.blk s H scope (compEnvC scope cl C X.env) fp) kx tk)
    (he : ∀ (s : Shared) (H : Hp) (C : Addr) (cl : List (Str × Addr)) (fp : List Addr), PE (X.blk s H scope (compEnvC scope cl C X.env) fp) vx tv) (hs : ∀ x, foldedSetIterable iter X.env x = pure x)
    (h : tXDc X.prog X.w X.K wi g tt tk tv (own.map (·.2)) σ H Q)
    (hRR : ∀ D C s' m H', Inv X pins σ H' s' → Q (.ref D) H' → s'.heap.Ns C m → FpOk X pins H' C → compPost (model X.prog X.w) X.A X.xe use Qf (.ref D) C (.ok .next) s') :
    wpAny (model X.prog X.w) X.A (comprehension (.DictComp kx vx [⟨tg, iter, ifs, 0⟩] scope pos) scope X.env pos' newDict false (eval iter X.env) use) Qf X.xe s := by
  have hfree : ∀ y ∈ scope.names, y.2 = .free → ∃ c, X.env.cells.lookup y.1 = some c := fun y hy e => by
    rcases ok.free y hy e with k | k
    · exact I.ok.has _ (.inl k)
    · exact I.ok.has _ (.inr k)
  refine wpAny_comprehension_free (use := use) rfl hs (closure_ok hfree) ok.kind (fun y hy e => by rw [ok.uniq y hy, e])
    (thn (hi.run pins s σ H _ I h) fun xv s1 hx => thn hx fun itv s2 h2 => ?_)
  obtain ⟨it, fp, tn, J, H2, e, I2, T, st2, f2, q⟩ := h2
  subst e
  refine wpAny_newObj_type (newEnv_comp ?_)
  generalize hD : s2.heap.objs.size = D
  have hDn : H2 D = none := I2.hok.fresh (Nat.le_of_eq hD)
  obtain ⟨W, ⟨m0, w0⟩, turn⟩ := q D hDn
  -- the new list
  generalize hs3 : ({ s2 with heap := s2.heap.push { cls := .type "dict", data := .dict #[] } } : Shared) = s3
  have I3 : Inv X pins σ (upd H2 D (DXO X.prog X.w D [])) s3 := by
    rw [← hs3]
    refine I2.laid (t' := s2.toks) (fun b o e => Heap.get?_push_of_some _ e) (Nat.le_of_eq hD) ?_
    rw [← hD]
    exact dx_empty s2.heap I2.big
  have h3 : s3.heap = s2.heap.push { cls := .type "dict", data := .dict #[] } := by rw [← hs3]
  have sz : ∀ b ∈ fp, b < s2.heap.objs.size := fun b hb => by
    obtain ⟨o, e, _⟩ := T.obj _ _ st2 b hb
    exact Heap.lt_size e
  have f3 : ∀ b ∈ fp, FpOk X pins (upd H2 D (DXO X.prog X.w D [])) b ∧ b < s3.heap.objs.size := fun b hb => by
    have hlt := sz b hb
    refine ⟨⟨?_, (f2 b hb).2⟩, by rw [h3, Heap.size_push]; exact Nat.lt_succ_of_lt hlt⟩
    rw [upd_ne (by rw [← hD]; exact Nat.ne_of_lt hlt)]
    exact (f2 b hb).1
  have st3 : tn 0 s3.heap := T.keep _ _ _ st2 fun b _ o e => by rw [h3]; exact Heap.get?_push_of_some _ e
  have I4 := block_start I3 ok hN f3
  have pg := hg s3 (upd H2 D (DXO X.prog X.w D [])) s3.heap.objs.size (cellsFrom (s3.heap.objs.size + 1) scope.names (cloFrom X.env.cells scope.names [])) fp
  have pt := ht s3 (upd H2 D (DXO X.prog X.w D [])) s3.heap.objs.size (cellsFrom (s3.heap.objs.size + 1) scope.names (cloFrom X.env.cells scope.names [])) fp
  have pk := hk s3 (upd H2 D (DXO X.prog X.w D [])) s3.heap.objs.size (cellsFrom (s3.heap.objs.size + 1) scope.names (cloFrom X.env.cells scope.names [])) fp
  have pe := he s3 (upd H2 D (DXO X.prog X.w D [])) s3.heap.objs.size (cellsFrom (s3.heap.objs.size + 1) scope.names (cloFrom X.env.cells scope.names [])) fp
  show codeAny _ _ (.compStart (.DictComp kx vx [⟨tg, iter, ifs, 0⟩] scope pos) 0 (.ref it) (.ref D) (compEnvC scope (cellsFrom (s3.heap.objs.size + 1) scope.names (cloFrom X.env.cells scope.names [])) s3.heap.objs.size X.env)) (compPost (model X.prog X.w) X.A X.xe use Qf (.ref D) s3.heap.objs.size) { s3 with heap := pushCells (s3.heap.push { cls := .type "dict", data := .dict #[] }) scope.names }
  have nfp : ∀ b ∈ fp, (upd H2 D (DXO X.prog X.w D [])) b = none := fun b hb => (f3 b hb).1.1
  generalize hce : compEnvC scope (cellsFrom (s3.heap.objs.size + 1) scope.names (cloFrom X.env.cells scope.names [])) s3.heap.objs.size X.env = ce at I4 pg pt pk pe ⊢
  have cL : ce.locals = s3.heap.objs.size := by subst hce; rfl
  generalize hH3 : upd H2 D (DXO X.prog X.w D []) = H3 at I3 I4 pg pt pk pe w0 nfp f3
  generalize hs4 : ({ s3 with heap := pushCells (s3.heap.push { cls := .type "dict", data := .dict #[] }) scope.names } : Shared) = s4 at I4 ⊢
  have st4 : tn 0 s4.heap := T.keep _ _ _ st3 fun b _ o e => by rw [← hs4]; exact pushCells_keeps _ _ _ _ (Heap.get?_push_of_some _ e)
  have stat : ∀ {σ' : L2.St} {H' : Hp} {s' : Shared}, Inv (X.blk s3 H3 scope ce fp) [] σ' H' s' → (∀ b ∈ fp, H' b = none) → ∀ b ∈ fp, FpOk (X.blk s3 H3 scope ce fp) [] H' b := fun {σ' H' s'} I' hn b hb =>
    ⟨hn b hb, (I'.ok.exf b hb).1, I'.ok.exfs b hb, .inl hb, fun x c e => (I'.ok.exf b hb).2 x c e, fun p hp => absurd (show p ∈ ([] : List (Addr × Obj)) ++ [] from hp) (by simp)⟩
  have loop : codeAny (model X.prog X.w) X.A (.compLoop (.DictComp kx vx [⟨tg, iter, ifs, 0⟩] scope pos) 0 (.ref it) (.ref D) ce) (compPost (model X.prog X.w) X.A X.xe use Qf (.ref D) s3.heap.objs.size) s4 := by
    refine compLoop_anyD (fun n s' => ∃ i H', Inv (X.blk s3 H3 scope ce fp) [] (wipe σ (own.map (·.2))) H' s' ∧ tn i s'.heap ∧ (∀ b ∈ fp, H' b = none) ∧ W i n H') ?_ m0 ⟨0, H3, I4, st4, nfp, w0⟩
    rintro n s5 ⟨i, H5, I5, st5, n5, w5⟩
    rcases turn i n H5 w5 with ⟨stop, qq⟩ | ⟨go, Nx, hNx, step⟩
    · have td := T.done (X.blk s3 H3 scope ce fp) rfl rfl rfl hc i [] s5 _ H5 (fun _ _ => False) I5 (stat I5 n5) st5 stop
      refine thnF td fun r s6 ⟨hr, I6⟩ => ?_
      subst hr
      -- back in the def's context
      have I7 : Inv X pins σ H5 s6 := I3.call' (ch := fp) I6.os I6.base I6.hok I6.bare fun b hb => ⟨(f3 b hb).1.2.2.2.1, (f3 b hb).1.2.1, (f3 b hb).1.2.2.2.2.1, (f3 b hb).1.2.2.2.2.2⟩
      have nC : H5 s3.heap.objs.size = none := by
        have z : H5 ce.locals = none := I6.free
        rw [cL] at z
        exact z
      obtain ⟨m, hn, _⟩ := I6.loc
      have hn : s6.heap.Ns ce.locals m := hn
      rw [cL] at hn
      exact hRR D s3.heap.objs.size s6 m H5 I7 qq hn (I3.fpOk (Nat.le_refl _) nC)
    · have ti := T.item (X.blk s3 H3 scope ce fp) rfl rfl rfl hc i [] s5 _ H5 (fun _ _ => False) I5 (stat I5 n5) st5 go
      refine thnF ti fun r s6 ⟨u, hr, h6⟩ => ?_
      subst hr
      refine thnF h6 fun _ s7 ⟨x, H7, I7, r7, y7, st7, n7⟩ => ?_
      have I7' := I7.pinned (stat I7 n7) (T.obj _ _ st7)
      refine thnF (pg.run _ s7 _ H7 x u _ I7' r7 (step x H7 y7)) fun _ s8 ⟨σ8, H8, I8, hw8, q8⟩ => ?_
      refine thnF (pt.run _ s8 σ8 H8 _ I8 q8) fun b s9 ⟨H9, I9, q9⟩ => ?_
      -- the turn's end
      have fin : ∀ {s' : Shared} {H' : Hp}, Inv (X.blk s3 H3 scope ce fp) ([] ++ pinsAt fp s7.heap) σ8 H' s' → Nx H' → ∃ m, m < n ∧ ∃ i H', Inv (X.blk s3 H3 scope ce fp) [] (wipe σ (own.map (·.2))) H' s' ∧ tn i s'.heap ∧ (∀ b ∈ fp, H' b = none) ∧ W i m H' := fun {s' H'} I' nx => by
        obtain ⟨m', hm, w'⟩ := hNx H' nx
        have pin' : ∀ b ∈ fp, ∀ o, s7.heap.get? b = some o → s'.heap.get? b = some o ∧ H' b = none := fun b hb o e =>
          let z := I'.pin (b, o) (List.mem_append_right _ (List.mem_append_right _ (mem_pinsAt hb e)))
          ⟨z.1, z.2.1⟩
        have hl : (wipe σ (own.map (·.2))).length = σ8.length := by rw [← hw8, wipe_length]
        refine ⟨m', hm, i + 1, H', (I'.unpinned (pins := [])).weak hl (fun j v e => ?_), T.keep _ _ _ st7 fun b hb o e => (pin' b hb o e).1, fun b hb => ?_, w'⟩
        · rw [← hw8] at e
          exact (wipe_some e).1
        · obtain ⟨o, e, _⟩ := T.obj _ _ st7 b hb
          exact (pin' b hb o e).2
      cases b with
      | false =>
        simp only [Bool.false_eq_true, if_false] at q9 ⊢
        exact fin I9 q9
      | true =>
        simp only [if_true] at q9 ⊢
        refine thnF (pk.run _ s9 σ8 H9 _ I9 q9) fun z s10 ⟨yk, H10, I10, r10, q10⟩ => ?_
        refine thnF (pe.run _ s10 σ8 H10 _ I10 q10) fun z2 s11 ⟨yv, H11, I11, r11, es, b, k, ek, hb11, hk11, hD11, hz11, nx⟩ => ?_
        subst ek
        exact x_dictSet (X := X.blk s3 H3 scope ce fp) hu I11 hD11 hk11 hz11 hb11 r10 r11 fun s12 I12 => fin I12 nx
  exact codeAny_compStart_dict loop (T.self X.A 0 _ _ _ st4 loop)
theorem pe_xdc {kx vx tg iter : Expr} {ifs : List Expr} {scope : Scope} {own : List (Str × Nat)} {pos : Pos} {wi : TI} {g : TG} {tt : TT} {tk tv : TE} (hu : X.A.units + 64 < cLine) (hc : X.calm = true) (hN : X.N.Nodup) (hi : PI X tg iter wi) (ok : BlkOk X.N X.env.scope scope own)
    (hg : ∀ (s : Shared) (H : Hp) (C : Addr) (cl : List (Str × Addr)) (fp : List Addr), PG (X.blk s H scope (compEnvC scope cl C X.env) fp) tg g) (ht : ∀ (s : Shared) (H : Hp) (C : Addr) (cl : List (Str × Addr)) (fp : List Addr), PTs (X.blk s H scope (compEnvC scope cl C X.env) fp) ifs tt)
    (hk : ∀ (s : Shared) (H : Hp) (C : Addr) (cl : List (Str × Addr)) (fp : List Addr), PE (X.blk s H scope (compEnvC scope cl C X.env) fp) kx tk)
    (he : ∀ (s : Shared) (H : Hp) (C : Addr) (cl : List (Str × Addr)) (fp : List Addr), PE (X.blk s H scope (compEnvC scope cl C X.env) fp) vx tv) (hs : ∀ x, foldedSetIterable iter X.env x = pure x := by intro _; rfl) :
    PE X (.DictComp kx vx [⟨tg, iter, ifs, 0⟩] scope pos) (tXDc X.prog X.w X.K wi g tt tk tv (own.map (·.2))) := by
  refine ⟨fun pins s σ H Q I h => ?_⟩
  rw [arm_eval_DictComp]
  refine xdc_core hu hc hN I hi ok hg ht hk he hs h fun D C s' m H' I' q hn f => ⟨m, hn, fun h'' sb => ?_⟩
  obtain ⟨f0, f1, f2, f3, f4, f5⟩ := f
  exact ⟨.ref D, H', I'.turned (t' := s'.toks) (fun b o hb e => (sb.2 b hb).trans e) f0 f1 f3 f4 f5, rfl, q⟩
theorem ps_setXDc {i : Nat} {y : Str} {py : Pos} {kx vx tg iter : Expr} {ifs : List Expr} {scope : Scope} {own : List (Str × Nat)} {pos spos : Pos} {wi : TI} {g : TG} {tt : TT} {tk tv : TE} (hu : X.A.units + 64 < cLine) (hc : X.calm = true) (hN : X.N.Nodup) (hy : X.N[i]? = some y) (hyl : X.env.scope.names.lookup y = some .local)
    (hsw : swapsWith (.DictComp kx vx [⟨tg, iter, ifs, 0⟩] scope pos) (some (.Name y py)) spos.line X.env = pure true) (hi : PI X tg iter wi) (ok : BlkOk X.N X.env.scope scope own)
    (hg : ∀ (s : Shared) (H : Hp) (C : Addr) (cl : List (Str × Addr)) (fp : List Addr), PG (X.blk s H scope (compEnvC scope cl C X.env) fp) tg g) (ht : ∀ (s : Shared) (H : Hp) (C : Addr) (cl : List (Str × Addr)) (fp : List Addr), PTs (X.blk s H scope (compEnvC scope cl C X.env) fp) ifs tt)
    (hk : ∀ (s : Shared) (H : Hp) (C : Addr) (cl : List (Str × Addr)) (fp : List Addr), PE (X.blk s H scope (compEnvC scope cl C X.env) fp) kx tk)
    (he : ∀ (s : Shared) (H : Hp) (C : Addr) (cl : List (Str × Addr)) (fp : List Addr), PE (X.blk s H scope (compEnvC scope cl C X.env) fp) vx tv) (hs : ∀ x, foldedSetIterable iter X.env x = pure x := by intro _; rfl) :
    PS X (.Assign [.Name y py] (.DictComp kx vx [⟨tg, iter, ifs, 0⟩] scope pos) spos) (tAsg (tXDc X.prog X.w X.K wi g tt tk tv (own.map (·.2))) (gName i)) := by
  refine ⟨fun pins s σ H D I h => ?_⟩
  rw [exec_Assign_Name_used _ _ _ _ hsw]
  refine wpAny_bind (wpAny_standAt (wpAny_bind ?_))
  show wpAny _ X.A (do let _ ← comprehension (.DictComp kx vx [⟨tg, iter, ifs, 0⟩] scope pos) scope X.env (firstIterPos [⟨tg, iter, ifs, 0⟩] pos) newDict false (eval iter X.env) (some (assign (.Name y py) X.env))) _ _ s
  have h : tXDc X.prog X.w X.K wi g tt tk tv (own.map (·.2)) σ H (fun x H1 => gName i x σ H1 D.nx) := h
  refine wpAny_bind (thn (xdc_core (Qf := fun _ s' => SP X pins D .next s') hu hc hN I hi ok hg ht hk he hs h fun L C s' m H' I' q hn f => ?_) fun _ s' hq => wpAny_pure (wpAny_pure hq))
  show wpAny _ _ (assign (.Name y py) X.env (.ref L)) _ _ _
  refine wpAny_assign_Name (store_ok2 (v := V.ref L) I' hN hy (.inl hyl) rfl (fun s2 I2 ⟨a, sb, ha⟩ => ?_) (.inr hyl))
  obtain ⟨f0, f1, f2, f3, f4, f5⟩ := f
  have haC : C ≠ a := by
    rcases ha with z | z
    · rw [z]; exact f1
    · exact fun e => f4 y a z e.symm
  refine ⟨m, hn.sameBut sb haC, fun h3 sb3 => ?_⟩
  exact ⟨_, H', I2.turned (t' := s2.toks) (fun b o hb e => (sb3.2 b hb).trans e) f0 f1 f3 f4 f5, q⟩
theorem sw_trueD {kx vx : Expr} {gs : List Comprehension} {scope : Scope} {pos py : Pos} {y : Str} {l : Nat} {env : PySem.Env} (hk : env.scope.kind = .function) (hy : env.scope.names.lookup y = some .local) (hl : (py.line == pos.line) = true)
    (ha : (scope.names.any fun (n, k) => n == y && (k == .local || k == .cell)) = false) : swapsWith (.DictComp kx vx gs scope pos) (some (.Name y py)) l env = pure true := by
  have ky : env.kindOf y = some .local := hy
  have hb : env.blockKind = .function := by unfold Env.blockKind; rw [hk]; rfl
  unfold swapsWith
  simp only [hb, ky, ha, Expr.pos, hl]
  rfl
end

/-! ### displays -/
def tXDisp (P : Program) (w : World) (K : PySem.W.Frag) (trs : List (TE × TE)) : TE := fun σ H Q => ∀ p, H p = none → tPairs trs σ (upd H p (DXO P w p [])) fun ps H2 => H2 p = some (DXO P w p []) ∧ ∃ es : List DEnt, ps = es.map (fun e => (V.ref e.2.1, e.2.2)) ∧ KeysAt K H2 es ∧ es.length ≤ 15 ∧ Q (.ref p) (upd H2 p (DXO P w p (foldE es)))
theorem carriesX {X : Cx} {pins : List (Addr × Obj)} {σ : L2.St} {H : Hp} {s : Shared} (I : Inv X pins σ H s) : ∀ {es : List DEnt} {ws : List (Value × Value)}, KeysAt X.K H es → VV (es.map fun e => (V.ref e.2.1, e.2.2)) ws → ∃ rs, CarriesH (tupleKind (mixKind X.prog X.w)) s.heap ws rs ∧ EX es rs
  | [], _, _, r => by rw [List.map_nil] at r; cases r; exact ⟨[], True.intro, .nil⟩
  | p :: es, _, ka, r => by
    rw [List.map_cons] at r
    cases r with
    | @cons a b as bs h t =>
      obtain ⟨rs, c, q⟩ := carriesX I (fun e he => ka e (List.mem_cons_of_mem _ he)) t
      obtain ⟨b1, b2⟩ := b
      exact ⟨(p.1, p.2.1, b2) :: rs, ⟨h.1, rfl, keyK I.hok I.kIn (ka p (List.mem_cons_self ..)), c⟩, .cons ⟨rfl, rfl, h.2⟩ q⟩
theorem pe_xdisp {X : Cx} {pos : Pos} {keys : List (Option Expr)} {values : List Expr} {trs : List (TE × TE)} (hu : X.A.units + 64 < cLine) (h : PPs X pos keys values trs) (hall : keys.all (·.isSome) = true) (hl : keys.length = values.length) (h0 : keys ≠ [])
    (h15 : keys.length ≤ 15) : PE X (.Dict keys values pos) (tXDisp X.prog X.w X.K trs) := by
  refine ⟨fun pins s σ H Q I q => ?_⟩
  have hn := I.hok.fresh (Nat.le_refl s.heap.objs.size)
  have I1 := I.laid (a := s.heap.objs.size) (o := DXO X.prog X.w s.heap.objs.size []) (h' := s.heap.push { cls := .type "dict", data := .dict #[] }) (t' := s.toks) (fun _ _ q => Heap.get?_push_of_some _ q) (Nat.le_refl _) (dx_empty s.heap I.big)
  have hm := pairTrees_length keys values X.env pos hall hl
  have hp0 : pairTrees keys values X.env pos ≠ [] := fun he => h0 (List.length_eq_zero_iff.mp (by rw [← hm, he]; rfl))
  rw [arm_eval_Dict, zip_pairTrees keys values X.env pos hall hl, dictDisplay_pairs _ hp0 (by omega)]
  refine wpAny_bind (wpAny_standAt (wpAny_bind (wpAny_subDictH (knd := tupleKind (mixKind X.prog X.w)) (Q := fun d s' => wpAny (model X.prog X.w) X.A (pure (Value.ref d)) _ X.xe s') (by show X.A.units < cLine; omega) (by rw [hm]; exact h15)
    (thn (h.run pins _ σ _ _ I1 (q _ hn)) fun ws s2 ⟨ps, H2, I2, rel, e, es, ep, ka, lk, q2⟩ => ?_))))
  subst ep
  obtain ⟨rs, c, rk⟩ := carriesX I2 ka rel
  obtain ⟨z, hd, vs0, r0, dd⟩ := dx_rd (es := []) I2.hok I2.kIn (.inl e) (fun _ hx => by cases hx)
  cases r0
  refine ⟨rs, c, dd, fun h' tk dd' hs => wpAny_pure ⟨.ref s.heap.objs.size, _, ?_, rfl, q2⟩⟩
  have hz : (foldE es).length ≤ sizeLine := by
    have h1 := foldE_len es []
    rw [List.length_nil] at h1
    unfold foldE
    rw [sizeLine_eq]; omega
  obtain ⟨q', os, ep, hq, h2⟩ := id dd'
  exact d_write I2 (by rw [e]; exact True.intro) hs ⟨q', hq⟩ (dx_ok hz hd (EX.fold rk .nil) dd')

/-- pairs of a display, by relations -/
def WpP (B : Bd) (Γ : Ctx) (trs : List (TE × TE)) (k : List (List Int × Rel) → Prop) : Prop :=
  ∀ σ H, Env B Γ σ H → ∀ Q : List (V × V) → Hp → Prop, (∀ ks (es : List DEnt) H', k ks → AlX B.K H' ks es → Same H H' → Q (es.map fun e => (V.ref e.2.1, e.2.2)) H') → tPairs trs σ H Q
section
variable {B : Bd} {Γ : Ctx}
theorem wp_nil {k : List (List Int × Rel) → Prop} (q : k []) : WpP B Γ [] k := fun σ H E Q hQ => hQ [] [] H q .nil (Same.refl H)
theorem wp_cons {tk tv : TE} {trs : List (TE × TE)} {k : List (List Int × Rel) → Prop} (h : WpE B Γ tk fun r => ∃ kk, r = rKey B.K kk ∧ WpE B Γ tv fun rv => WpP B Γ trs fun ks => k ((kk, rv) :: ks)) : WpP B Γ ((tk, tv) :: trs) k := fun σ H E Q hQ =>
  h σ H E _ fun r x H1 ⟨kk, er, h1⟩ px e1 => h1 σ H1 (E.mono e1) _ fun rv y H2 h2 py e2 => h2 σ H2 (E.mono (Same.trans e1 e2)) _ fun ks es H3 hk hal e3 => by
    subst er
    have e13 := Same.trans e2 e3
    obtain ⟨b, rfl, hb⟩ := rKey_at (Rel.st _ (Same.im e13) px)
    exact hQ ((kk, rv) :: ks) ((ik kk, b, y) :: es) H3 hk (.cons ⟨rfl, by rw [ik_kV] at hb; exact hb, Rel.st _ (Same.im e3) py⟩ hal) (Same.trans e1 e13)
theorem wx_xdisp {trs : List (TE × TE)} {kx : List (List Int × Rel) → Prop} (h : WpP B Γ trs fun ks => ks.length ≤ 15 ∧ kx (foldM ks)) : WpX B Γ (tXDisp B.P B.w B.K trs) kx := fun σ H E Q hQ p hp =>
  h σ _ (E.mono (Same.new hp)) _ fun ks es H2 ⟨hl, hk⟩ hal e2 => by
    have hp2 : H2 p = some (DXO B.P B.w p []) := e2 _ _ upd_same
    have e3 : Same H (upd H2 p (DXO B.P B.w p (foldE es))) := Same.put (Same.trans (Same.new hp) e2) hp
    exact ⟨hp2, es, rfl, hal.keys, by rw [hal.length]; exact hl, hQ _ p _ _ hk hp e3 upd_same (AlX.st (Im.upd hp2 dx_c) (AlX.fold hal .nil))⟩

/-- A i ks: what the dict may hold behind i turns -/
theorem wx_xdc {wi : TI} {g : TG} {tt : TT} {tk tv : TE} {vs : List Nat} {kx : List (List Int × Rel) → Prop} (h : WpI B Γ wi fun n rs => ∃ A : Nat → List (List Int × Rel) → Prop, A 0 [] ∧
    (∀ i, i < n → ∀ ks, A i ks → ∀ G st, ∃ Γ2 js, (∀ j, j ∈ js → j ∈ vs) ∧ WpG (B.more G st) (wipeC Γ vs) g (rs i) js Γ2 ∧
      WpT (B.more G st) Γ2 tt fun b => (b = true → WpE (B.more G st) Γ2 tk fun r => ∃ kk, r = rKey B.K kk ∧ WpE (B.more G st) Γ2 tv fun rv => ks.length < sizeLine ∧ A (i + 1) (putM ks kk rv)) ∧ (b = false → A (i + 1) ks)) ∧
    ∀ ks, A n ks → kx ks) : WpX B Γ (tXDc B.P B.w B.K wi g tt tk tv vs) kx := fun σ H E Q hQ => by
  refine h σ H E _ fun J n rs G Y H1 ⟨A, h0, hs, hz⟩ e w hG im hY => ?_
  intro Dl hD
  have old : Env B (wipeC Γ vs) (wipe σ vs) H1 := (E.mono e).wipe vs
  refine ⟨fun i m H2 => m = n - i ∧ i ≤ n ∧ ∃ ks es, A i ks ∧ H2 Dl = some (DXO B.P B.w Dl es) ∧ AlX B.K H2 ks es ∧ Env (B.more G im) (wipeC Γ vs) (wipe σ vs) H2 ∧ Same H1 H2, ⟨n, by simp, Nat.zero_le _, [], [], h0, upd_same, .nil, ((old.mono (Same.new hD))).more (im _ _ (Same.im (Same.new hD)) hG), Same.new hD⟩, ?_⟩
  rintro i m H2 ⟨rfl, hi, ks, es, a, hl, hal, p, s1⟩
  by_cases hlt : i < n
  · refine .inr ⟨w.goes i H2 hlt p.fx.2, fun H' => ∃ ks es, A (i + 1) ks ∧ H' Dl = some (DXO B.P B.w Dl es) ∧ AlX B.K H' ks es ∧ Env (B.more G im) (wipeC Γ vs) (wipe σ vs) H' ∧ Same H1 H', fun H' q => ⟨n - (i + 1), by omega, rfl, hlt, q⟩, fun x H3 y => ?_⟩
    obtain ⟨e1, px⟩ := hY i H2 x H3 hlt p.fx.2 (w.yields i H2 x H3 hlt p.fx.2 y)
    obtain ⟨Γ2, js, hj, hg, ht⟩ := hs i hlt ks a G im
    refine hg _ H3 x (p.mono e1) px _ fun σ2 H4 E2 e2 hk hlen => ⟨?_, ?_⟩
    · exact (wipe_of hlen fun j hjn => hk j fun z => hjn (hj j z)).trans (wipe_of (wipe_length σ vs) fun j hjn => wipe_out hjn)
    · refine ht σ2 H4 E2 _ fun b H5 ⟨q1, q2⟩ e3 => ?_
      have e13 : Same H2 H5 := Same.trans e1 (Same.trans e2 e3)
      cases b with
      | true =>
        refine iteT (q1 rfl σ2 H5 (E2.mono e3) _ fun r v H6 ⟨kk, er, hv⟩ pv e4 => hv σ2 H6 ((E2.mono e3).mono e4) _ fun rv v' H7 ⟨hz', a'⟩ pv' e5 => ?_)
        subst er
        have e47 := Same.trans e4 e5
        have e17 : Same H2 H7 := Same.trans e13 e47
        have hl7 := e17 _ _ hl
        have hal7 := hal.st (Same.im e17)
        obtain ⟨b, rfl, hb⟩ := rKey_at (Rel.st _ (Same.im e5) pv)
        refine ⟨es, b, ik kk, rfl, hb, hal7.keys, hl7, by rw [hal.length]; exact hz', putM ks kk rv, _, a', upd_same, AlX.st (Im.upd hl7 dx_c) (hal7.put hb pv'), ?_, Same.put (Same.trans s1 e17) hD⟩
        have p7 := p.mono e17
        have h0n : B.H0 Dl = none := by
          have z : Same B.H0 H1 := Same.trans E.ex e
          exact Same.free z hD
        refine ⟨p7.len, Same.put p7.ex h0n, (B.more G im).fs _ _ (Im.upd hl7 dx_c) p7.fx, fun j t ej => ?_, p7.dis⟩
        obtain ⟨ov, z1, z2⟩ := p7.ty j t ej
        obtain ⟨ov', y1, y2⟩ := old.ty j t ej
        rw [z1] at y1
        cases y1
        refine ⟨ov, z1, ?_⟩
        cases t with
        | no => trivial
        | im r => obtain ⟨v, c1, c2⟩ := z2; exact ⟨v, c1, r.st (Im.upd hl7 dx_c) c2⟩
        | ml rs =>
          obtain ⟨l, ys, c1, c2, c3, c4⟩ := z2
          obtain ⟨l', ys', d1, d2, d3, d4⟩ := y2
          subst c1
          cases d1
          refine ⟨l, ys, rfl, c2, ?_, c4.st (Im.upd hl7 dx_c)⟩
          rw [upd_ne (fun z => by rw [z, hD] at d3; cases d3)]
          exact c3
        | mx ks =>
          obtain ⟨l, ys, c1, c2, c3, c4⟩ := z2
          obtain ⟨l', ys', d1, d2, d3, d4⟩ := y2
          subst c1
          cases d1
          refine ⟨l, ys, rfl, c2, ?_, c4.st (Im.upd hl7 dx_c)⟩
          rw [upd_ne (fun z => by rw [z, hD] at d3; cases d3)]
          exact c3
      | false => exact iteF ⟨ks, es, q2 rfl, e13 _ _ hl, hal.st (Same.im e13), p.mono e13, Same.trans s1 e13⟩
  · have en : i = n := by omega
    subst en
    exact .inl ⟨w.stops H2 p.fx.2, hQ ks Dl es H2 (hz ks a) (Same.free e hD) (Same.trans e s1) hl hal⟩
end

/-! ### two dicts with the same entries are equal -/
section
variable {prog : Program} {w : World} {K : Type} [DecidableEq K] {knd : HeapKind prog w K} {A : Around} {E : Value → Shared → Prop} {s : Shared}
theorem same_pairsX {nm : String} {a b : Addr} {xs ys : List (K × Addr × Value)} {Q : Bool → Shared → Prop} (hu : knd.room A) (ha : (a == sysModules) = false) (hb : (b == sysModules) = false)
    (da : s.heap.DictOfH knd a xs) (db : s.heap.DictOfH knd b ys) (hl : xs.length = ys.length)
    (hits : ∀ (i : Nat) k p v, xs[i]? = some (k, p, v) → (∃ (j : Nat) (q : Addr × Value), ys[j]? = some (k, q)) ∧ ∀ (j : Nat) (q : Addr × Value), ys[j]? = some (k, q) → PySem.SeqAt.EqP prog w A s v q.2 true) (h : Q true s) :
    wpAny (model prog w) A (Builtin.Dict.samePairs nm a b) Q E s := by
  obtain ⟨oa, es, ep, hoa, _, hda, hea, hia, hna⟩ := da
  obtain ⟨ob, es', ep', hob, _, hdb, heb, hib, hnb⟩ := db
  have hla : es.size = xs.length := size_of_entries hea
  have hlb : es'.size = ys.length := size_of_entries heb
  have hsz : es.size = es'.size := by omega
  unfold Builtin.Dict.samePairs Builtin.Dict.showsAll
  rw [if_neg (show ¬ (a == sysModules) = true by rw [ha]; exact Bool.false_ne_true), if_neg (show ¬ (b == sysModules) = true by rw [hb]; exact Bool.false_ne_true)]
  refine wpAny_bind (wpAny_pure (wpAny_bind (wpAny_pure ?_)))
  refine wpAny_bind (wpAny_dictEntries hoa hda ?_)
  dsimp only
  refine wpAny_bind (wpAny_dictEntries hob hdb ?_)
  rw [if_neg (by rw [hsz]; simp)]
  refine wpAny_bind (wpAny_dictEpoch hoa hda ?_)
  refine wpAny_bind ?_
  rw [Std.Legacy.Range.forIn_eq_forIn_range']
  simp only [Std.Legacy.Range.size, Nat.sub_zero, Nat.add_sub_cancel, Nat.div_one]
  refine wpAny_forIn_list _ (fun rest q s' => s' = s ∧ q = (none, ()) ∧ ∃ i, rest = List.range' i (es.size - i) ∧ i ≤ es.size) _ ?_ ?_ _ _ ⟨rfl, rfl, 0, by simp, Nat.zero_le _⟩
  · rintro x rest q s' ⟨rfl, rfl, i, hr, hi⟩
    have hlt : i < es.size := by
      rcases Nat.lt_or_ge i es.size with h | h
      · exact h
      · rw [Nat.sub_eq_zero_of_le h] at hr; simp at hr
    obtain ⟨rfl, hrest⟩ : x = i ∧ rest = List.range' (i + 1) (es.size - (i + 1)) := by
      have e : es.size - i = (es.size - (i + 1)) + 1 := by omega
      rw [e, List.range'_succ] at hr
      injection hr with h1 h2
      exact ⟨h1, h2⟩
    refine wpAny_bind (wpAny_dictEntries hoa hda ?_)
    obtain ⟨⟨k, p, v⟩, hx⟩ : ∃ z, xs[x]? = some z := ⟨xs[x]'(by omega), List.getElem?_eq_getElem _⟩
    have he1 : es[x]? = some (entryOfKey knd (k, p, v)) := by rw [entry_at hea x, hx]; rfl
    rw [he1]
    obtain ⟨⟨j0, q0, hj0⟩, hq⟩ := hits x k p v hx
    show wpAny _ _ (holding [Value.ref p, v] _ >>= _) _ _ _
    refine wpAny_bind (wpAny_holding (wpAny_bind (wpAny_dictFind_heap hu (hia _ (List.mem_of_getElem? hx)) hob hdb heb hib hnb (fun hn => absurd hj0 (hn j0 q0)) fun j q hj => ?_)))
    have he2 : es'[j]? = some (entryOfKey knd (k, q)) := by rw [entry_at heb j, hj]; rfl
    refine wpAny_bind (wpAny_dictEntries hob hdb ?_)
    rw [he2]
    refine wpAny_holding ((hq j q hj) _ _ ?_)
    show wpAny _ _ (if (!true) = true then _ else _) _ _ _
    rw [if_neg (by decide)]
    refine wpAny_bind (wpAny_dictEpoch hoa hda ?_)
    rw [if_neg (by simp)]
    exact wpAny_pure ⟨rfl, rfl, x + 1, hrest, hlt⟩
  · rintro q s' ⟨rfl, rfl, i, hr, hi⟩
    exact wpAny_pure h
theorem keq_eqX {a b : Addr} {xs ys : List (K × Addr × Value)} {Q : Value → Shared → Prop} (hr : knd.room A.in1) (ha : (a == sysModules) = false) (hb : (b == sysModules) = false)
    (da : s.heap.DictOfH knd a xs) (db : s.heap.DictOfH knd b ys) (hu : A.units < cLine) (hl : xs.length = ys.length)
    (hits : ∀ (i : Nat) k p v, xs[i]? = some (k, p, v) → (∃ (j : Nat) (q : Addr × Value), ys[j]? = some (k, q)) ∧ ∀ (j : Nat) (q : Addr × Value), ys[j]? = some (k, q) → PySem.SeqAt.EqP prog w A.in1 s v q.2 true) (h : Q (.bool true) s) :
    wpAny (model prog w) A (compareOp .Eq (.ref a) (.ref b)) Q E s := by
  refine wpAny_richCompare_same_room (op := .Eq) da.typeIs db.typeIs PySem.F.slot_dict_eq (wpAny_call_entry PySem.F.slot_dict_eq da.typeIs PySem.F.entry_dict_eq ?_ (PySem.F.args_dict_eq_2 _ _)) hu
  show wpAny _ _ (Builtin.Dict.dictSlotArgs "__eq__" ⟨[.ref a, .ref b], []⟩ >>= _) _ _ s
  refine wpAny_bind ?_
  unfold Builtin.Dict.dictSlotArgs
  refine wpAny_bind (wpAny_notOrdered_dict da.typeIs ?_)
  show wpAny _ _ (pure (Value.ref a, Value.ref b)) _ _ s
  refine wpAny_pure ?_
  refine wpAny_bind (wpAny_isInstance (T := "dict") db.typeIs PySem.F.sub_dict_dict ?_)
  simp only [Bool.not_true, Bool.false_eq_true, if_false]
  refine wpAny_bind (wpAny_pure (wpAny_bind (wpAny_pure ?_)))
  refine wpAny_bind (same_pairsX hr ha hb da db hl hits ?_)
  refine wpAny_pure ⟨_, rfl, ?_, ?_⟩
  · exact fun x => nomatch x
  · simpa using h
end
def rXEq (P : Program) (w : World) (K : PySem.W.Frag) : R2 := fun x y H Q => ∃ a b es fs, x = .ref a ∧ y = .ref b ∧ Rd H a (DXO P w a es) ∧ Rd H b (DXO P w b fs) ∧ KeysAt K H es ∧ KeysAt K H fs ∧ es.length = fs.length ∧
  (∀ e ∈ es, ∃ i c, e.2.2 = .int i ∧ getM fs e.1 = some (c, .int i)) ∧ Q (.bl true) H
theorem at_nodup {κ : Type} [DecidableEq κ] : ∀ {ys : List (κ × Addr × Value)} {j : Nat} {k : κ} {q : Addr × Value}, (ys.map (·.1)).Nodup → ys[j]? = some (k, q) → atKey ys k = some q
  | [], _, _, _, _, h => by simp at h
  | y :: ys, j, k, q, nd, h => by
    rw [List.map_cons, List.nodup_cons] at nd
    cases j with
    | zero =>
      simp at h
      subst h
      simp [atKey, List.find?_cons]
    | succ j =>
      have h' : ys[j]? = some (k, q) := by simpa using h
      have ne : ¬ y.1 = k := fun z => nd.1 (by rw [z]; exact List.mem_map.mpr ⟨_, List.mem_of_getElem? h', rfl⟩)
      have ih := at_nodup nd.2 h'
      unfold atKey at ih ⊢
      rw [List.find?_cons]
      simp only [ne, decide_false]
      exact ih
theorem at_some {κ : Type} [DecidableEq κ] : ∀ {ys : List (κ × Addr × Value)} {k : κ} {q : Addr × Value}, atKey ys k = some q → ∃ j : Nat, ys[j]? = some (k, q)
  | [], _, _, h => by cases h
  | y :: ys, k, q, h => by
    by_cases e : y.1 = k
    · subst e
      simp [atKey, List.find?_cons] at h
      subst h
      exact ⟨0, rfl⟩
    · unfold atKey at h
      rw [List.find?_cons] at h
      simp only [e, decide_false] at h
      obtain ⟨j, hj⟩ := at_some (ys := ys) h
      exact ⟨j + 1, by simpa using hj⟩
theorem op_xeq {X : Cx} (hu : X.A.units + 64 < cLine) : OpR X (compareOp .Eq) (rXEq X.prog X.w X.K) := by
  intro pins s σ H x y v u Q I rx ry ⟨a, b, es, fs, ex, ey, ga, gb, ka, kb, hl, hv, q⟩
  subst ex ey
  obtain rfl : v = Value.ref a := rx
  obtain rfl : u = Value.ref b := ry
  obtain ⟨z, hd, xs, rel, dd⟩ := dx_rd I.hok I.kIn ga ka
  obtain ⟨z', hd', ys, rel', dd'⟩ := dx_rd I.hok I.kIn gb kb
  have nd : (ys.map (·.1)).Nodup := let ⟨_, _, _, _, _, _, _, _, n⟩ := dd'; n
  refine keq_eqX (tupleKind_room_in1 (A := X.A) (by omega)) hd hd' dd dd' (by omega) (by rw [← Paired.length rel, ← Paired.length rel']; exact hl) (fun i k p v hx => ?_) (fin_bl I q rfl)
  obtain ⟨e, he, h1, h2, h3⟩ : ∃ e, es[i]? = some e ∧ e.1 = k ∧ e.2.1 = p ∧ RelV e.2.2 v := by
    have hlt : i < es.length := by rw [Paired.length rel]; exact (List.getElem?_eq_some_iff.mp hx).1
    obtain ⟨b', hb', q1, q2, q3⟩ := pget2 rel (List.getElem?_eq_getElem hlt)
    rw [hx] at hb'
    cases hb'
    exact ⟨_, List.getElem?_eq_getElem hlt, q1, q2, q3⟩
  obtain ⟨n, c, en, hg⟩ := hv e (List.mem_of_getElem? he)
  have rv := rel'.val e.1
  rw [hg] at rv
  obtain ⟨y, hy, ry⟩ := RelO.some_of (v := V.int n) (o := (atKey ys e.1).map (·.2)) (show RelO (some (V.int n)) ((atKey ys e.1).map (·.2)) from rv)
  obtain ⟨q0, hq0, e0⟩ := Option.map_eq_some_iff.mp hy
  subst e0
  rw [h1] at hq0
  refine ⟨let ⟨j, hj⟩ := at_some hq0; ⟨j, q0, hj⟩, fun j q1 hj => ?_⟩
  have := at_nodup nd hj
  rw [hq0] at this
  cases this
  rw [en] at h3
  exact PySem.SeqAt.EqAt.eqP (eqAt_same h3 ry rfl)
theorem ot_xeq {B : Bd} {ks ls : List (List Int × Rel)} {k : Rel → Prop} (hl : ks.length = ls.length) (h : ∀ p ∈ ks, ∃ i, p.2 = rInt i ∧ getM ls p.1 = some (rInt i)) (q : k (rBl true)) : OpT B (rXEq B.P B.w B.K) (rDct B.P B.w B.K ks) (rDct B.P B.w B.K ls) k := fun H x y _ ⟨a, o, es, ex, ha, hal⟩ ⟨b, o', fs, ey, hb, hal'⟩ Q hQ => by
  subst ex ey
  refine ⟨a, b, es, fs, rfl, rfl, .inr ⟨o, ha⟩, .inr ⟨o', hb⟩, hal.keys, hal'.keys, by rw [hal.length, hal'.length]; exact hl, fun e he => ?_, hQ _ _ H q rfl (Same.refl H)⟩
  obtain ⟨p, hp, h1, h2, h3⟩ : ∃ p ∈ ks, ik p.1 = e.1 ∧ SqT B.K H e.2.1 (p.1.map V.int) ∧ p.2.p e.2.2 H := by
    obtain ⟨j, hj⟩ := List.mem_iff_getElem?.mp he
    have hlt : j < ks.length := by rw [← hal.length]; exact (List.getElem?_eq_some_iff.mp hj).1
    obtain ⟨b', hb', q⟩ := pget2 hal (List.getElem?_eq_getElem hlt)
    rw [hj] at hb'
    cases hb'
    exact ⟨_, List.getElem_mem hlt, q⟩
  obtain ⟨i, ei, hg⟩ := h p hp
  rw [ei] at h3
  rcases hal'.val p.1 with ⟨n, _⟩ | ⟨r, c, v, g1, g2, pv⟩
  · rw [hg] at n; cases n
  · rw [hg] at g1
    cases g1
    exact ⟨i, c, h3, by rw [← h1, g2]; exact congrArg (fun z => some (c, z)) pv⟩
end BX
set_option Elab.async false
set_option linter.all false
set_option maxRecDepth 100000
set_option maxHeartbeats 1000000
/-! BXi: the built-in functions by relations; slices, sums of tuples, unpacking of lists, instances. -/
namespace BX
open PySem PySem.Spec PyProof.Rows L2

/-! ### what is never reached -/
def tNo : TE := fun _ _ _ => False
def sNo : TS := fun _ _ _ => False
theorem pe_no {X : Cx} {e : Expr} : PE X e tNo := ⟨fun _ _ _ _ _ _ h => h.elim⟩
theorem ps_no {X : Cx} {s : Stmt} : PS X s sNo := ⟨fun _ _ _ _ _ _ h => h.elim⟩
theorem pss_no {X : Cx} {s : List Stmt} : PSs X s sNo := ⟨fun _ _ _ _ _ _ h => h.elim⟩

theorem al_app {α β : Type} {G : α → β → Prop} : ∀ {a c : List α} {b d : List β}, Paired G a b → Paired G c d → Paired G (a ++ c) (b ++ d)
  | _, _, _, _, .nil, h => h
  | _, _, _, _, .cons h t, h' => .cons h (al_app t h')
section
variable {B : Bd} {Γ : Ctx} {ta tb tc te : TE} {k : Rel → Prop} {D : Ends}
theorem we_imp {k' : Rel → Prop} (h : WpE B Γ te k) (m : ∀ r, k r → k' r) : WpE B Γ te k' := we_mono h m

/-! ### lists and tuples -/
theorem al_map_int {H : Hp} {ns : List Int} {vs : List V} (h : Al H (ns.map rInt) vs) : vs = ns.map V.int := al_ints h
theorem al_map_bl {H : Hp} : ∀ {bs : List Bool} {vs : List V}, Al H (bs.map rBl) vs → vs = bs.map V.bl
  | [], _, .nil => rfl
  | i :: k, _, .cons h t => by rw [List.map_cons, ← al_map_bl t]; exact congrArg (· :: _) h
theorem ct_max {ns : List Int} (h0 : 0 < ns.length) (q : ∀ m, m ∈ ns → (∀ y, y ∈ ns → y ≤ m) → k (rInt m)) : CaT B (rMax B.K) [rLst (ns.map rInt)] k := fun H vs _ h Q hQ => by
  cases h with
  | cons h t =>
    cases t
    obtain ⟨a, o, xs, rfl, hs, hal⟩ := h
    rw [al_map_int hal] at hs
    exact ⟨a, ns, rfl, .inl (.inr ⟨o, hs⟩), h0, fun m hm hle => hQ _ _ H (q m hm hle) rfl (Same.refl H)⟩
theorem ct_all {bs : List Bool} (q : k (rBl (bs.all id))) : CaT B (rAll B.K) [rLst (bs.map rBl)] k := fun H vs _ h Q hQ => by
  cases h with
  | cons h t =>
    cases t
    obtain ⟨a, o, xs, rfl, hs, hal⟩ := h
    rw [al_map_bl hal] at hs
    exact ⟨a, bs, rfl, .inl (.inr ⟨o, hs⟩), hQ _ _ H q rfl (Same.refl H)⟩
theorem ct_any {bs : List Bool} (q : k (rBl (bs.any id))) : CaT B (rAny B.K) [rLst (bs.map rBl)] k := fun H vs _ h Q hQ => by
  cases h with
  | cons h t =>
    cases t
    obtain ⟨a, o, xs, rfl, hs, hal⟩ := h
    rw [al_map_bl hal] at hs
    exact ⟨a, bs, rfl, .inl (.inr ⟨o, hs⟩), hQ _ _ H q rfl (Same.refl H)⟩
theorem ct_sum {ns : List Int} (q : k (rInt ns.sum)) : CaT B (rSum B.K) [rLst (ns.map rInt)] k := fun H vs _ h Q hQ => by
  cases h with
  | cons h t =>
    cases t
    obtain ⟨a, o, xs, rfl, hs, hal⟩ := h
    rw [al_map_int hal] at hs
    exact ⟨a, ns, rfl, .inl (.inr ⟨o, hs⟩), hQ _ _ H q rfl (Same.refl H)⟩
/-- tuple(list) -/
theorem ct_tuple {rs : List Rel} (q : k (rTup B.K rs)) : CaT B (fun xs H Q => ∃ p ys, xs = [.ref p] ∧ ((SqL B.K H p ys ∧ ∀ l, H l = none → Q (.ref l) (upd H l (.tup ys))) ∨ (SqT B.K H p ys ∧ Q (.ref p) H))) [rLst rs] k := fun H vs _ h Q hQ => by
  cases h with
  | cons h t =>
    cases t
    obtain ⟨a, o, xs, rfl, hs, hal⟩ := h
    exact ⟨a, xs, rfl, .inl ⟨.inl (.inr ⟨o, hs⟩), fun l hl => hQ _ _ _ q ⟨l, xs, rfl, .inl (.inl upd_same), hal.st (Same.im (Same.new hl))⟩ (Same.new hl)⟩⟩
/-- list(tuple), list(list) -/
theorem wl_listT {kl : List Rel → Prop} (h : WpE B Γ te fun r => ∃ rs, (r = rTup B.K rs ∨ r = rLst rs) ∧ kl rs) : WpL B Γ (tCB (fun xs H Q => ∃ p ys, xs = [.ref p] ∧ (SqL B.K H p ys ∨ SqT B.K H p ys) ∧ ∀ l, H l = none → Q (.ref l) (upd H l (.lst ys))) (tCons te tNil)) kl := fun σ H E Q hQ =>
  h σ H E _ fun r v H1 ⟨rs, er, hk⟩ p e => by
    rcases er with er | er
    · subst er
      obtain ⟨a, xs, rfl, hs, hal⟩ := p
      exact ⟨a, xs, rfl, .inr hs, fun l hl => hQ rs l xs _ hk (Same.free e hl) (Same.trans e (Same.new hl)) upd_same (hal.st (Same.im (Same.new hl)))⟩
    · subst er
      obtain ⟨a, o, xs, rfl, hs, hal⟩ := p
      exact ⟨a, xs, rfl, .inl (.inl (.inr ⟨o, hs⟩)), fun l hl => hQ rs l xs _ hk (Same.free e hl) (Same.trans e (Same.new hl)) upd_same (hal.st (Same.im (Same.new hl)))⟩
/-- two new lists, one behind the other -/
theorem wl_cat {kl : List Rel → Prop} (h : WpL B Γ ta fun rs => WpL B Γ tb fun ss => rs.length + ss.length ≤ sizeLine ∧ kl (rs ++ ss)) : WpL B Γ (tOp rCat ta tb) kl := fun σ H E Q hQ =>
  h σ H E _ fun rs p xs H1 h1 hp e1 hx hal => h1 σ H1 (E.mono e1) _ fun ss p' ys H2 ⟨hz, hk⟩ hp' e2 hy hal' => by
    refine ⟨p, p', xs, ys, rfl, rfl, e2 _ _ hx, hy, by rw [← Paired.length hal, ← Paired.length hal']; exact hz, fun l hl => ?_⟩
    have e12 := Same.trans e1 e2
    exact hQ _ l _ _ hk (Same.free e12 hl) (Same.trans e12 (Same.new hl)) upd_same (Al.st (Same.im (Same.new hl)) (al_app (Al.st (Same.im e2) hal) hal'))
/-- t[lo:hi] -/
theorem wo_none {ko : Option Int → Prop} (q : ko none) : WpO B Γ tNoPart ko := fun σ H E Q hQ => hQ none H q (Same.refl H)
theorem wo_some {ko : Option Int → Prop} (h : WpE B Γ te fun r => ∃ i, r = rInt i ∧ ko (some i)) : WpO B Γ (tPart te) ko := fun σ H E Q hQ =>
  h σ H E _ fun r v H1 ⟨i, er, hk⟩ p e => by
    subst er
    exact ⟨i, p, hQ _ H1 hk e⟩
def cutR {α : Type} (xs : List α) (lo hi : Option Int) : List α := (xs.drop (HT.sIx xs.length 0 lo)).take (HT.sIx xs.length xs.length hi - HT.sIx xs.length 0 lo)
theorem cutR_whole {α : Type} {xs : List α} {lo hi : Option Int} (h : HT.sIx xs.length 0 lo = 0 ∧ HT.sIx xs.length xs.length hi = xs.length) : cutR xs lo hi = xs := by
  unfold cutR
  rw [h.1, h.2, List.drop_zero, Nat.sub_zero, List.take_length]
theorem Al.drop {H : Hp} : ∀ (n : Nat) {rs : List Rel} {vs : List V}, Al H rs vs → Al H (rs.drop n) (vs.drop n)
  | 0, _, _, h => h
  | n + 1, _, _, .nil => .nil
  | n + 1, _, _, .cons _ t => Al.drop n t
theorem Al.take {H : Hp} : ∀ (n : Nat) {rs : List Rel} {vs : List V}, Al H rs vs → Al H (rs.take n) (vs.take n)
  | 0, _, _, h => .nil
  | n + 1, _, _, .nil => .nil
  | n + 1, _, _, .cons h t => .cons h (Al.take n t)
theorem we_slT {tl th : TO} (h : WpE B Γ te fun r => ∃ rs, r = rTup B.K rs ∧ WpO B Γ tl fun lo => WpO B Γ th fun hi => k (rTup B.K (cutR rs lo hi))) : WpE B Γ (tSl (rSlA B.K) te tl th) k := fun σ H E Q hQ =>
  h σ H E _ fun r v H1 ⟨rs, er, h1⟩ p e1 => h1 σ H1 (E.mono e1) _ fun lo H2 h2 e2 => h2 σ H2 (E.mono (Same.trans e1 e2)) _ fun hi H3 hk e3 => by
    subst er
    have e13 := Same.trans e1 (Same.trans e2 e3)
    obtain ⟨a, xs, rfl, hs, hal⟩ := Rel.st _ (Same.im (Same.trans e2 e3)) p
    have hl : xs.length = rs.length := (Paired.length hal).symm
    refine ⟨a, xs, rfl, hs, fun w => hQ _ _ _ hk ⟨a, xs, rfl, hs, ?_⟩ e13, fun w l hl' => hQ _ _ _ hk ⟨l, _, rfl, .inl (.inl upd_same), ?_⟩ (Same.trans e13 (Same.new hl'))⟩
    · rw [hl] at w
      rw [cutR_whole w]
      exact hal
    · have q := Al.take (HT.sIx rs.length rs.length hi - HT.sIx rs.length 0 lo) (Al.drop (HT.sIx rs.length 0 lo) hal)
      unfold cutV cutR
      rw [hl]
      exact q.st (Same.im (Same.new hl'))
/-- t + u -/
theorem ot_catT {rs ss : List Rel} (hz : rs.length + ss.length ≤ sizeLine) (q : k (rTup B.K (rs ++ ss))) : OpT B (rCatA B.K) (rTup B.K rs) (rTup B.K ss) k := fun H x y _ ⟨a, xs, ex, hs, hal⟩ ⟨b, ys, ey, hs', hal'⟩ Q hQ => by
  subst ex ey
  refine ⟨a, b, xs, ys, rfl, rfl, hs, hs', by rw [← Paired.length hal, ← Paired.length hal']; exact hz, fun e => ?_, fun _ e => ?_, fun _ _ p hp => ?_⟩
  · subst e
    cases hal
    exact hQ _ _ H q ⟨b, ys, rfl, hs', hal'⟩ (Same.refl H)
  · subst e
    cases hal'
    exact hQ _ _ H q ⟨a, xs, rfl, hs, by rw [List.append_nil]; exact hal⟩ (Same.refl H)
  · exact hQ _ _ _ q ⟨p, _, rfl, .inl (.inl upd_same), Al.st (Same.im (Same.new hp)) (al_app hal hal')⟩ (Same.new hp)
/-- t < u, tuples of ints -/
theorem ot_ltT {ns ms : List Int} (q : k (rBl (HT.lexLt ns ms))) : OpT B (rLtT B.K) (rKey B.K ns) (rKey B.K ms) k := fun H x y _ ⟨a, xs, ex, hs, hal⟩ ⟨b, ys, ey, hs', hal'⟩ Q hQ => by
  subst ex ey
  rw [al_ints hal] at hs
  rw [al_ints hal'] at hs'
  exact ⟨a, b, ns, ms, rfl, rfl, hs, hs', hQ _ _ H q rfl (Same.refl H)⟩
theorem ct_abs {i : Int} (q : k (rInt (if i < 0 then -i else i))) : CaT B (fun xs H Q => ∃ i, xs = [.int i] ∧ Q (.int (if i < 0 then -i else i)) H) [rInt i] k := fun H vs _ h Q hQ => by
  cases h with
  | cons h t =>
    cases t
    cases h
    exact ⟨i, rfl, hQ _ _ H q rfl (Same.refl H)⟩
theorem ct_int {i : Int} (q : k (rInt i)) : CaT B (fun xs H Q => (∃ i, xs = [.int i] ∧ Q (.int i) H) ∨ ∃ b, xs = [.bl b] ∧ Q (.int (if b then 1 else 0)) H) [rInt i] k := fun H vs _ h Q hQ => by
  cases h with
  | cons h t =>
    cases t
    cases h
    exact .inl ⟨i, rfl, hQ _ _ H q rfl (Same.refl H)⟩
theorem ct_intB {b : Bool} (q : k (rInt (if b then 1 else 0))) : CaT B (fun xs H Q => (∃ i, xs = [.int i] ∧ Q (.int i) H) ∨ ∃ b, xs = [.bl b] ∧ Q (.int (if b then 1 else 0)) H) [rBl b] k := fun H vs _ h Q hQ => by
  cases h with
  | cons h t =>
    cases t
    cases h
    exact .inr ⟨b, rfl, hQ _ _ H q rfl (Same.refl H)⟩
theorem ct_max2 {i j : Int} (q : k (rInt (if j > i then j else i))) : CaT B (fun xs H Q => ∃ i j, xs = [.int i, .int j] ∧ Q (.int (if j > i then j else i)) H) [rInt i, rInt j] k := fun H vs _ h Q hQ => by
  cases h with
  | cons h t =>
    cases t with
    | cons h' t =>
      cases t
      cases h
      cases h'
      exact ⟨i, j, rfl, hQ _ _ H q rfl (Same.refl H)⟩

/-! ### statements -/
theorem ws_aug {i : Nat} {ti : TIp} {r : Rel} {t : TS} (hi : Γ[i]? = some (.im r)) (h : WpE B Γ te fun rb => OpT B ti r rb fun rr => WpS B D (Γ.set i (.im rr)) t) : WpS B D Γ (tSeq (tAug i te ti) t) := fun σ H E => by
  obtain ⟨v, h1, pv⟩ := E.im_at hi
  refine ⟨v, h1, h σ H E _ fun rb y H1 q p e => ?_⟩
  exact q H1 v y (Same.trans E.ex e) (r.st (Same.im e) pv) p _ fun rr z H2 q' p' e' => q' _ _ ((E.mono (Same.trans e e')).set i p')
theorem ws_par {i j : Nat} {t : TA} {tz : TS} (h : WpA B Γ t fun rs => ∃ r s, rs = [r, s] ∧ WpS B D ((Γ.set i (.im r)).set j (.im s)) tz) : WpS B D Γ (tSeq (tPar i j t) tz) := fun σ H E =>
  h σ H E _ fun rs vs H1 ⟨r, s, er, q⟩ p e => by
    subst er
    cases p with
    | cons p1 t1 =>
      cases t1 with
      | cons p2 t2 =>
        cases t2
        exact ⟨_, _, rfl, q _ _ (((E.mono e).set i p1).set j p2)⟩
/-- the second one a new dict -/
theorem ws_parX {i j : Nat} {tz : TS} (h : WpE B Γ ta fun r => WpX B Γ tb fun ks => WpS B D ((Γ.set i (.im r)).set j (.mx ks)) tz) : WpS B D Γ (tSeq (tPar i j (tCons ta (tCons tb tNil))) tz) := fun σ H E =>
  h σ H E _ fun r v H1 h1 p1 e1 => h1 σ H1 (E.mono e1) _ fun ks p es H2 h2 hp e2 hx hal =>
    ⟨_, _, rfl, h2 _ _ (((E.mono e1).set i p1).setM j e2 hp ⟨p, es, rfl, (Same.trans E.ex e1).free hp, hx, hal⟩)⟩

/-! ### instances -/
/-- the promise of an __init__ that sets fields -/
def spMk (C : Addr) (S : List Rel → List (Str × Rel) → Prop) : Sp := fun vs H Q _ => ∃ x dx ws rs fs, vs = .ref x :: ws ∧ H x = some (.ins C dx []) ∧ Al H rs ws ∧ S rs fs ∧
  ∀ H1 xs, Same H H1 → Paired (fun (p : Str × Rel) (q : Str × V) => p.1 = q.1 ∧ p.2.p q.2 (upd H1 x (.ins C dx xs))) fs xs → Q .non (upd H1 x (.ins C dx xs))
theorem we_make {C : Addr} {S : List Rel → List (Str × Rel) → Prop} {E0' : XK} {t : TA} (h : WpA B Γ t fun rs => ∃ fs, S rs fs ∧ k (rIns C fs)) : WpE B Γ (tMake C (spMk C S) [] E0' t) k := fun σ H E Q hQ =>
  h σ H E _ fun rs vs H1 ⟨fs, hs, hk⟩ p e x dx hx hdx ne => by
    have n1 : Same H1 (upd (upd H1 dx (.own x)) x (.ins C dx [])) := Same.trans (Same.new hdx) (Same.new (by rw [upd_ne (Ne.symm ne)]; exact hx))
    refine ⟨x, dx, vs, rs, fs, by rw [List.append_nil], upd_same, p.st (Same.im n1), hs, fun H2 xs s2 hp => ⟨rfl, ?_⟩⟩
    have s3 : Same H1 (upd H2 x (.ins C dx xs)) := Same.put (fun b u q => s2 b u (n1 b u q)) hx
    exact hQ _ _ _ hk ⟨x, dx, xs, rfl, upd_same, hp⟩ (Same.trans e s3)
/-- self.f = e, the last statement of such an __init__ -/
theorem ws_fldI {i : Nat} {C : Addr} {f : Str} (hi : Γ[i]? = some (.im (rIns C []))) (c : Cls B.K C) (na : NoAttr B.K C f)
    (h : WpE B Γ te fun r => ∀ σ H1 x dx v, σ[i]? = some (some (V.ref x)) → H1 x = some (.ins C dx []) → Same B.H0 H1 → r.p v (upd H1 x (.ins C dx [(f, v)])) → D.nx σ (upd H1 x (.ins C dx [(f, v)])))
    (hr : ∀ (r : Rel) v H1 x dx o, r.p v H1 → H1 x = some (.ins C dx []) → o = .ins C dx [(f, v)] → r.p v (upd H1 x o)) : WpS B D Γ (sFld B.K (tVar i) te f) := fun σ H E =>
  h σ H E _ fun r y H1 q p e => by
    obtain ⟨v, h1, a, dx, xs, rfl, ha, hp⟩ := (E.mono e).im_at hi
    cases hp
    refine ⟨_, h1, a, C, dx, [], rfl, ha, c, na, by decide, ?_⟩
    exact q σ H1 a dx y h1 ha (Same.trans E.ex e) (hr r y H1 a dx _ p ha rfl)
end

/-! ### max of a tuple of ints -/
theorem max_tup {prog : Program} {w : World} {A : Around} {E : Value → Shared → Prop} {s : Shared} {a : Addr} {its : List Value} {ns : List Int} {Q : Value → Shared → Prop} (hh : A.handled = none) (hl : s.heap.IsTuple a its.toArray) (hi : IntsAre its ns) (hne : 0 < ns.length)
    (h : ∀ h' tk M t', (∀ b o, s.heap.get? b = some o → h'.get? b = some o) → M ∈ ns → (∀ a, a ∈ ns → a ≤ M) → Q (.int M t') { s with heap := h', toks := tk }) : wpAny (model prog w) A (call (.builtin "max") [.ref a]) Q E s := by
  have hlt : a < s.heap.objs.size := by obtain ⟨_, e, _⟩ := hl; exact Heap.lt_size e
  have hlen : its.length = ns.length := by
    clear hl hne h
    induction hi with
    | nil => rfl
    | cons _ _ _ ih => rw [List.length_cons, List.length_cons, ih]
  have at_ : ∀ (i : Nat) v, its.toArray[i]? = some v → ∃ t, v = Value.int (ns.getD i 0) t := by
    intro i v hv
    have hv' : its[i]? = some v := by simpa using hv
    clear hv hl hne h hlt hlen
    induction hi generalizing i with
    | nil => simp at hv'
    | @cons n t r1 r2 _ ih =>
      cases i with
      | zero => simp at hv'; exact ⟨_, hv'.symm⟩
      | succ i => simpa using ih i (by simpa using hv')
  refine call_max_walk (wpAny_pyIter_tuple hl ⟨s.heap.objs.size, _, _, _, _, _, _, rfl, Walks.tuple (A := A.in1) hh s.heap.objs.size a (Nat.ne_of_lt hlt) its.toArray, ⟨⟨_, Heap.get?_push_size _ rfl, rfl, rfl⟩, hl.at fun o e => Heap.get?_push_of_some _ e⟩, ?_, by simpa [hlen] using hne, CmpOf.ints_gt (fun i => ns.getD i 0) at_, fun v h' tk hP hk => ?_⟩)
  · intro b hb
    show b < (s.heap.push _).objs.size
    rw [Heap.size_push]
    rcases List.mem_cons.mp hb with rfl | hb
    · exact Nat.lt_succ_self _
    · rcases List.mem_cons.mp hb with rfl | hb
      · exact Nat.lt_succ_of_lt hlt
      · cases hb
  · obtain ⟨t, rfl⟩ := at_ _ _ hP
    obtain ⟨h1, h2⟩ := argBest_gt (fun i => ns.getD i 0) (its.toArray.size - 1)
    have hsz : its.toArray.size = ns.length := by simpa using hlen
    refine h h' tk _ t (fun b o e => hk b o (fun hm => ?_) (Heap.get?_push_of_some _ e)) ?_ fun y hy => ?_
    · rw [List.mem_singleton.mp hm] at e
      exact absurd (Heap.lt_size e) (Nat.lt_irrefl _)
    · exact PySem.getD_mem (by omega)
    · obtain ⟨j, hj, rfl⟩ := mem_getD hy
      exact h2 j (by omega)
def rMaxT (K : PySem.W.Frag) : List V → Hp → VK → Prop := fun vs H Q => ∃ (a : Addr) (ns : List Int), vs = [V.ref a] ∧ SqT K H a (ns.map V.int) ∧ 0 < ns.length ∧ ∀ m, m ∈ ns → (∀ y, y ∈ ns → y ≤ m) → Q (.int m) H
theorem cr_maxT {X : Cx} (hc : X.calm = true) : CallR X (.builtin "max") (rMaxT X.K) := by
  intro pins s σ H xs us Q I r h
  obtain ⟨a, ns, rfl, hs, h0, q⟩ := h
  obtain rfl := Vals.ref1 r
  obtain ⟨its, rv, ht, _⟩ := I.tuple hs
  exact max_tup (I.ok.hd hc) ht (intsAre_of rv) h0 fun h' tk M t' hk hm hle => ⟨.int M, H, I.kept (t' := tk) hk, ⟨t', rfl⟩, q M hm hle⟩
theorem ct_maxT {B : Bd} {k : Rel → Prop} {ns : List Int} (h0 : 0 < ns.length) (q : ∀ m, m ∈ ns → (∀ y, y ∈ ns → y ≤ m) → k (rInt m)) : CaT B (rMaxT B.K) [rKey B.K ns] k := fun H vs _ h Q hQ => by
  cases h with
  | cons h t =>
    cases t
    obtain ⟨a, xs, rfl, hs, hal⟩ := h
    rw [al_ints hal] at hs
    exact ⟨a, ns, rfl, hs, h0, fun m hm hle => hQ _ _ H (q m hm hle) rfl (Same.refl H)⟩
end BX
set_option Elab.async false
set_option linter.all false
set_option maxRecDepth 100000
set_option maxHeartbeats 1000000
/-! BXj: equality by an own __eq__, isinstance, unpacking of lists, retyping. -/
namespace BX
namespace Ne
open PySem PySem.SeqAt
open AutoSeq1 (wpAny_loadPart')
open MeetsSeq MeetsSeq2 MeetsSeq3 SeqRoads2
open GQ (FinOf call_here)
section
variable {prog : Program} {w : World} {A : Around} {R : Result → Shared → Prop}
theorem tuple_neG (l b : Addr) (items items2 : Array Value) (n n2 : Nat) (dd dd2 : Option Addr) (sl sl2 : Array (Option Value)) (hsz : items.size = items2.size) (I : Nat → Shared → Prop)
    (turn : ∀ i (h1 : i < items.size) (h2 : i < items2.size) s, I i s → wpAny (model prog w) A.in1 (eqBool items[i] items2[i]) (fun r s' => r = true ∧ I (i + 1) s') (fun e s' => R (.error e) s') s)
    (fin : ∀ s, I items.size s → R (.ok (.ret (.bool false))) s) {s : Shared} (hl1 : s.heap.get? l = some { cls := .type "tuple", dict := dd, data := .seq items n, slots := sl }) (hb1 : s.heap.get? b = some { cls := .type "tuple", dict := dd2, data := .seq items2 n2, slots := sl2 }) (h : I 0 s) :
    wpAny (model prog w) A.in1 (Builtin.«tuple.__ne__» ⟨[.ref l, .ref b], []⟩) (FinOf prog w A R) (fun e s' => R (.error e) s') s := by
  have f2 := AutoSeq1.sub_tuple_tuple
  have hZ : (items.toList.zip items2.toList).length = items.size := by simp [hsz]
  have h0 := h
  obtain ⟨hp, g, d, tk, os⟩ := s
  wp_walk using wpAny_loadPart' hl1, wpAny_loadPart' hb1, wpAny_forIn_list _ (fun rest b s' => b.1 = none ∧ ∃ i, rest = (items.toList.zip items2.toList).drop i ∧ i ≤ items.size ∧ I i s') _
  case turn =>
    rintro ⟨y, x⟩ rest b s' ⟨hb', i, hz, hi, hI⟩
    have hlt : i < (items.toList.zip items2.toList).length := by
      rcases Nat.lt_or_ge i (items.toList.zip items2.toList).length with h' | h'
      · exact h'
      · rw [List.drop_of_length_le h'] at hz; cases hz
    have h1 : i < items.size := hZ ▸ hlt
    have h2 : i < items2.size := hsz ▸ h1
    rw [List.drop_eq_getElem_cons hlt] at hz
    injection hz with hyx hrest
    have hy : y = items[i] := by have := congrArg Prod.fst hyx; simpa using this
    have hx : x = items2[i] := by have := congrArg Prod.snd hyx; simpa using this
    subst hy hx
    refine wpAny_bind (wpAny_mono (turn i h1 h2 s' hI) (fun r s2 q2 => ?_) fun _ _ x => x)
    obtain ⟨hr, q2⟩ := q2
    subst hr
    wp_walk
    exact ⟨rfl, i + 1, hrest, h1, q2⟩
  case fin =>
    rintro ⟨b1, b2⟩ s' ⟨hb', i, hz, hi, hI⟩
    simp only at hb'
    subst hb'
    have hge : items.size ≤ i := by
      rcases Nat.lt_or_ge i (items.toList.zip items2.toList).length with h' | h'
      · rw [List.drop_eq_getElem_cons h'] at hz; cases hz
      · exact hZ ▸ h'
    have hi' : i = items.size := by omega
    have hR : R (.ok (.ret (.bool false))) s' := fin s' (hi' ▸ hI)
    wp_walk
    simpa [Builtin.Tuple.tupleCompareSizes, hsz] using hR
  case h =>
    exact ⟨rfl, 0, rfl, Nat.zero_le _, h0⟩
end
section
variable {prog : Program} {w : World} {A : Around} {E : Value → Shared → Prop} {s : Shared}
theorem rc_tupNG {l b : Addr} {items items2 : Array Value} {Q : Value → Shared → Prop} (hsz : items.size = items2.size) (hu : A.units < cLine) (I : Nat → Shared → Prop)
    (hl : s.heap.IsTuple l items) (hb : s.heap.IsTuple b items2)
    (turn : ∀ i (h1 : i < items.size) (h2 : i < items2.size) s, I i s → wpAny (model prog w) A.in1 (eqBool items[i] items2[i]) (fun r s' => r = true ∧ I (i + 1) s') E s)
    (fin : ∀ s, I items.size s → Q (.bool false) s) (h : I 0 s) : wpAny (model prog w) A (richCompare .NotEq (.ref l) (.ref b)) Q E s := by
  obtain ⟨⟨cls, dd, data, sl⟩, ho, hc, n, hd⟩ := id hl
  obtain ⟨⟨cls2, dd2, data2, sl2⟩, ho2, hc2, n2, hd2⟩ := id hb
  simp only at hc hd hc2 hd2
  subst hc hd hc2 hd2
  refine wpAny_richCompare_same_room (op := .NotEq) ⟨_, ho, rfl⟩ ⟨_, ho2, rfl⟩ F.slot_tuple_ne (call_here F.slot_tuple_ne ⟨_, ho, rfl⟩ F.entry_tuple_ne (F.args_tuple_ne_2 _ _) ?_) hu
  exact tuple_neG (R := wants (fun v s' => v ≠ .notImplemented ∧ Q v s') E) l b items items2 n n2 dd dd2 sl sl2 hsz I turn (fun s' q => ⟨(fun x => nomatch x), fin s' q⟩) ho ho2 h

end
end Ne
open PySem PySem.Spec PyProof.Rows L2

/-! ### equal by the same relation -/
/-- == of two things of the relation gives True -/
def EqR (X : Cx) (n : Nat) (r : Rel) : Prop := EqG X n fun x y H => r.p x H ∧ r.p y H
theorem mon_rel (r : Rel) : Mon fun x y H => r.p x H ∧ r.p y H := fun x y H H' e h => ⟨r.st (Same.im e) h.1, r.st (Same.im e) h.2⟩
theorem EqR.mono' {X : Cx} {n m : Nat} {r : Rel} (h : EqR X n r) (hn : n ≤ m) : EqR X m r := EqG.mono h hn
theorem eqR_c {X : Cx} {v : V} (h : flatV v = true) (e : eqV v v = true) : EqR X 0 (rC v) := eqG_flat.imp fun x y H d => by
  obtain ⟨d1, d2⟩ := d
  cases d1
  cases d2
  exact ⟨h, h, e⟩
theorem eqR_int {X : Cx} {i : Int} : EqR X 0 (rInt i) := eqR_c rfl (by simp [eqV])
theorem prs_of {D : Eqv} {H : Hp} : ∀ {rs : List Rel} {xs ys : List V}, (∀ r ∈ rs, ∀ x y, r.p x H → r.p y H → D x y H) → Al H rs xs → Al H rs ys → Prs D xs ys H
  | _, _, _, _, .nil, .nil => Prs.nil
  | _, _, _, h, .cons h1 t1, .cons h2 t2 => Prs.cons (h _ (List.mem_cons_self ..) _ _ h1 h2) (prs_of (fun r hr => h r (List.mem_cons_of_mem _ hr)) t1 t2)
theorem eqG_any {X : Cx} {n : Nat} {rs : List Rel} (h : ∀ r ∈ rs, EqR X n r) : EqG X n fun x y H => ∃ r ∈ rs, r.p x H ∧ r.p y H := fun A pins s σ H x y u v sb I rx ry ⟨r, hr, d⟩ => h r hr A pins s σ H x y u v sb I rx ry d
theorem mon_any {rs : List Rel} : Mon fun x y H => ∃ r ∈ rs, r.p x H ∧ r.p y H := fun x y H H' e ⟨r, hr, d⟩ => ⟨r, hr, mon_rel r x y H H' e d⟩
theorem eqR_tup {X : Cx} {n : Nat} {rs : List Rel} (h : ∀ r ∈ rs, EqR X n r) : EqR X (n + 1) (rTup X.K rs) := (eqG_tup mon_any (eqG_any h)).imp fun x y H d => by
  obtain ⟨⟨a, xs, ex, hs, hal⟩, ⟨b, ys, ey, hs', hal'⟩⟩ := d
  exact ⟨a, b, xs, ys, ex, ey, hs, hs', prs_of (fun r hr x y h1 h2 => ⟨r, hr, h1, h2⟩) hal hal'⟩
theorem eqR_key {X : Cx} {k : List Int} : EqR X 1 (rKey X.K k) := eqR_tup fun r hr => by
  obtain ⟨i, _, rfl⟩ := List.mem_map.mp hr
  exact eqR_int
/-- the own == of a class: what its def promises -/
def spEqI (C : Addr) (fs : List (Str × Rel)) : Sp := spEq fun a b H => (rIns C fs).p (.ref a) H ∧ (rIns C fs).p (.ref b) H
theorem eqR_ins {X : Cx} {n : Nat} {CX : CXT} {C f : Addr} {fd : FuncData} {ps : List Str} {E : XK} {fs : List (Str × Rel)} (F : FnOk X.prog X.w X.K X.mg X.base CX n f fd ps (spEqI C fs))
    (hs : PySem.W.findIn X.K (.ref C) "__eq__" = some (some (.ref f))) (hf : PySem.W.isFn X.K (.ref f) = true) (hb : Binds X.K fd ps []) (hx : Passes CX X E) : EqR X n (rIns C fs) :=
  (eqG_ins (E := E) F hs hf hb hx).imp fun x y H d => by
    obtain ⟨d1, d2⟩ := d
    obtain ⟨a, dx, xs, rfl, ha, hp⟩ := d1
    obtain ⟨b, dy, ys, rfl, hb, hp'⟩ := d2
    exact ⟨a, b, dx, dy, xs, ys, rfl, rfl, ha, hb, ⟨a, dx, xs, rfl, ha, hp⟩, ⟨b, dy, ys, rfl, hb, hp'⟩⟩
/-- == as an expression, two things of one relation that is a tuple -/
def rEqT (K : PySem.W.Frag) (rs : List Rel) : R2 := rEqG fun x y H => (rTup K rs).p x H ∧ (rTup K rs).p y H
theorem op_eqT {X : Cx} {n : Nat} {rs : List Rel} (h : ∀ r ∈ rs, EqR X n r) (hr : Room (n + 1) X.A) : OpR X (compareOp .Eq) (rEqT X.K rs) :=
  op_eqG (fun A pins s σ H x y u v sb I rx ry d => by
    obtain ⟨⟨a, xs, ex, hs, hal⟩, ⟨b, ys, ey, hs', hal'⟩⟩ := d
    exact rcG_tup mon_any (eqG_any h) A pins s σ H x y u v sb I rx ry ⟨a, b, xs, ys, ex, ey, hs, hs', prs_of (fun r hr x y h1 h2 => ⟨r, hr, h1, h2⟩) hal hal'⟩) hr
theorem ot_eqT {B : Bd} {k : Rel → Prop} {rs : List Rel} (q : k (rBl true)) : OpT B (rEqT B.K rs) (rTup B.K rs) (rTup B.K rs) k := fun H x y _ h1 h2 Q hQ => ⟨⟨h1, h2⟩, fun H' e => hQ _ _ H' q rfl e⟩
def rNeT (K : PySem.W.Frag) (rs : List Rel) : R2 := fun x y H Q => ((rTup K rs).p x H ∧ (rTup K rs).p y H) ∧ ∀ H', Ext H H' → Q (.bl false) H'
theorem op_neT {X : Cx} {n : Nat} {rs : List Rel} (h : ∀ r ∈ rs, EqR X n r) (hr : Room (n + 1) X.A) : OpR X (compareOp .NotEq) (rNeT X.K rs) := by
  intro pins s σ H x y u v Q I rx ry hq
  obtain ⟨d, q⟩ := hq
  obtain ⟨⟨a, xs, rfl, hs, hal⟩, ⟨b, ys, rfl, hs', hal'⟩⟩ := d
  cases rx
  cases ry
  obtain ⟨its, r, e, z⟩ := I.tuple hs
  obtain ⟨its2, r2, e2, z2⟩ := I.tuple hs'
  have p : Prs (fun x y H => ∃ r ∈ rs, r.p x H ∧ r.p y H) xs ys H := prs_of (fun r hr x y h1 h2 => ⟨r, hr, h1, h2⟩) hal hal'
  have hsz : its.toArray.size = its2.toArray.size := by rw [List.size_toArray, List.size_toArray, ← r.length, ← r2.length]; exact p.1
  show wpAny (model X.prog X.w) X.A (richCompare .NotEq (.ref a) (.ref b)) (EP X pins σ Q) X.xe s
  exact Ne.rc_tupNG hsz hr.units0 (fun _ s' => LoopI X pins σ H s') e e2 (fun i h1 h2 s' q => turnG mon_any (eqG_any h) ⟨hr, rfl⟩ p r r2 i h1 h2 s' q) (fun s' ⟨H', I', e'⟩ => ⟨.bl false, H', I', rfl, q H' e'⟩) ⟨H, I, Ext.rfl'⟩
theorem ot_neT {B : Bd} {k : Rel → Prop} {rs : List Rel} (q : k (rBl false)) : OpT B (rNeT B.K rs) (rTup B.K rs) (rTup B.K rs) k := fun H x y _ h1 h2 Q hQ => ⟨⟨h1, h2⟩, fun H' e => hQ _ _ H' q rfl e⟩

/-! ### isinstance -/
def TyB (P : Program) (w : World) (K : PySem.W.Frag) (H : Hp) (x : V) (t : Value) : Prop := TyX K H x t ∨ (t = .type "dict" ∧ ∃ a es, x = .ref a ∧ Rd H a (DXO P w a es))
def rIsiB (P : Program) (w : World) (K : PySem.W.Frag) : List V → Hp → VK → Prop := fun xs H Q => ∃ (x c : V) (t u : Value) (b : Bool), xs = [x, c] ∧ ClsV c u ∧ TyB P w K H x t ∧ PySem.W.kitOne K t u = some b ∧ Q (.bl b) H
theorem call_isiB {X : Cx} : CallR X (.builtin "isinstance") (rIsiB X.prog X.w X.K) := by
  intro pins s σ H xs us Q I r h
  obtain ⟨x, c, t, u, b, rfl, kc, ty, e, q⟩ := h
  rcases ty with ty | ⟨rfl, a, es, rfl, g⟩
  · exact call_isi pins s σ H _ us Q I r ⟨x, c, t, u, b, rfl, kc, ty, e, q⟩
  · obtain ⟨u1, u2, rfl, r1, r2⟩ := vals2 r
    have e2 := kc.eq r2
    subst e2
    cases (show u1 = Value.ref a from r1)
    obtain ⟨_, _, ob, os, ep, h1, h2, _⟩ := x_raw I g
    exact PySem.W.kia_one PySem.W.kitx_dict I.kIn ⟨ob, h1, h2.1⟩ e (fun z => nomatch z) fun tk => ⟨.bl b, H, I.tok tk, rfl, q⟩
/-- things of the relation are of the type -/
def HasTy (B : Bd) (r : Rel) (t : Value) : Prop := ∀ H v, r.p v H → TyB B.P B.w B.K H v t
theorem ct_isi {B : Bd} {k : Rel → Prop} {r : Rel} {c : V} {t u : Value} {b : Bool} (h : HasTy B r t) (hc : ClsV c u) (e : PySem.W.kitOne B.K t u = some b) (q : k (rBl b)) : CaT B (rIsiB B.P B.w B.K) [r, rC c] k := fun H vs _ hh Q hQ => by
  cases hh with
  | cons h1 t1 =>
    cases t1 with
    | cons h2 t2 =>
      cases t2
      cases h2
      exact ⟨_, c, t, u, b, rfl, hc, h H _ h1, e, hQ _ _ H q rfl (Same.refl H)⟩
section
variable {B : Bd}
theorem ty_int {i : Int} : HasTy B (rInt i) (.type "int") := fun H v h => by cases h; exact .inl (.base (.int i))
theorem ty_bl {i : Bool} : HasTy B (rBl i) (.type "bool") := fun H v h => by cases h; exact .inl (.base (.bl i))
theorem ty_str {i : Str} : HasTy B (rStr i) (.type "str") := fun H v h => by cases h; exact .inl (.base (.str i))
theorem ty_tup {rs : List Rel} : HasTy B (rTup B.K rs) (.type "tuple") := fun H v h => by
  obtain ⟨a, xs, rfl, hs, _⟩ := h
  rcases hs with (hs | ⟨o, hs⟩) | ⟨o, its, n, hk, hc, _⟩
  · exact .inl (.base (.tup hs))
  · exact .inl (.fTuple hs)
  · exact .inl (.kTuple hk hc)
theorem ty_lst {rs : List Rel} : HasTy B (rLst rs) (.type "list") := fun H v h => by
  obtain ⟨a, o, xs, rfl, hs, _⟩ := h
  exact .inl (.base (.frz hs))
theorem ty_dct {ks : List (List Int × Rel)} : HasTy B (rDct B.P B.w B.K ks) (.type "dict") := fun H v h => by
  obtain ⟨a, o, es, rfl, hs, _⟩ := h
  exact .inr ⟨rfl, a, es, rfl, .inr ⟨o, hs⟩⟩
theorem ty_ins {C : Addr} {fs : List (Str × Rel)} (cl : Cls B.K C) (ha : PySem.W.findIn B.K (.ref C) "__class__" = some (some (.builtin "object.__class__")))
      (hn : PySem.W.specialIn B.K (.builtin "object.__class__") "__get__" = some (some (.builtin "getset_descriptor.__get__"))) (htk : PySem.W.takesIn B.K (.builtin "object.__class__") = some true)
      (hm : PySem.W.mroIn B.K C (.type "object") = some true) : HasTy B (rIns C fs) (.ref C) := fun H v h => by
  obtain ⟨a, dx, xs, rfl, hs, _⟩ := h
  exact .inl (.base (.ins hs cl ha hn htk hm))
end

/-! ### the parts of a list -/
section
variable {prog : Program} {w : World} {A : Around} {E : Value → Shared → Prop} {s : Shared}
theorem draw_list {it l : Addr} {items : Array Value} (hne : l ≠ it) : ∀ (n i : Nat) (s : Shared) (Q : List Value → Shared → Prop), s.heap.IsListIter it l i → s.heap.IsList l items → i + n ≤ items.size →
    (∀ h', h'.IsListIter it l (i + n) → Heap.SameBut it s.heap h' → Q ((items.toList.drop i).take n) { s with heap := h' }) → wpAny (model prog w) A (draw (.ref it) n) Q E s
  | 0, i, s, Q, hit, _, _, hQ => by
    show wpAny _ _ (pure []) Q E s
    exact wpAny_pure (by simpa using hQ s.heap hit (Heap.SameBut.refl ..))
  | n + 1, i, s, Q, hit, ht, hle, hQ => by
    have hlt : i < items.size := by omega
    show wpAny _ _ (pyNext (.ref it) >>= _) Q E s
    refine wpAny_bind (wpAny_pyNext_list_item hit ht (x := items[i]) (by simp [hlt]) fun h₁ hit₁ hs₁ => ?_)
    refine wpAny_bind (wpAny_holding (draw_list hne n (i + 1) _ _ hit₁ (ht.extBut hs₁.extBut hne) (by omega) fun h₂ hit₂ hs₂ => wpAny_pure ?_))
    have hd : items.toList.drop i = items[i] :: items.toList.drop (i + 1) := by simp [List.drop_eq_getElem_cons, hlt]
    have := hQ h₂ (by rw [show i + (n + 1) = i + 1 + n by omega]; exact hit₂) (hs₁.trans hs₂)
    rw [hd, List.take_succ_cons] at this
    exact this
theorem unpackItems_list {l : Addr} {items : Array Value} {Q : List Value → Shared → Prop} (hh : A.handled = none) (ht : s.heap.IsList l items)
    (hQ : ∀ h', Heap.ExtBut s.heap.objs.size s.heap h' → Q items.toList { s with heap := h' }) : wpAny (model prog w) A (unpackItems (.ref l) items.size none) Q E s := by
  have hlt : l ≠ s.heap.objs.size := by obtain ⟨o, ho, _⟩ := ht; exact Nat.ne_of_lt (Heap.lt_size ho)
  unfold unpackItems
  refine wpAny_bind ?_
  unfold notIterableAtAll
  refine wpAny_bind (wpAny_specialOf ht.typeIs PySem.F.slot_list_iter.lookup ?_)
  refine wpAny_pure ?_
  simp only [Bool.false_eq_true, if_false]
  refine wpAny_bind (wpAny_holding (wpAny_pyIter_list ht ?_))
  refine wpAny_bind (wpAny_holding (draw_list hlt items.size 0 _ _ ⟨_, Heap.get?_push_size _ rfl, rfl, rfl⟩ (ht.push _) (by omega) fun h₁ hit₁ hs₁ => ?_))
  have hall : List.take items.size (List.drop 0 items.toList) = items.toList := by
    rw [List.drop_zero]; exact List.take_of_length_le (by simp)
  rw [hall]
  rw [if_neg (by simp)]
  have ht₁ : h₁.IsList l items := (ht.push _).extBut hs₁.extBut hlt
  refine wpAny_bind (wpAny_holding (wpAny_pyNext_list_end hh hit₁ ht₁ (by simp) fun h₂ he₂ => ?_))
  simp only [Option.isSome_none, Bool.false_eq_true, if_false]
  exact wpAny_pure (hQ h₂ fun b o hb e => he₂ b o hb (hs₁.extBut b o hb (Heap.get?_push_of_some _ e)))
theorem unpack_list {l : Addr} {items : Array Value} {targets : List (Bool × (Value → Sem Unit))} {Q : Unit → Shared → Prop} (hh : A.handled = none) (ht : s.heap.IsList l items)
    (hn : targets.length = items.size) (hstar : targets.findIdx? (·.1) = none)
    (h : ∀ h', Heap.ExtBut s.heap.objs.size s.heap h' → wpAny (model prog w) A (assignInOrder (targets.map (·.2)) items.toList) Q E { s with heap := h' }) :
    wpAny (model prog w) A (unpack (.ref l) targets) Q E s := by
  unfold unpack
  rw [hn, hstar]
  exact wpAny_bind (wpAny_holding (unpackItems_list hh ht h))
end
/-- a, b = xs, xs a list -/
def gTupL (K : PySem.W.Frag) (n : Nat) (t : TGs) : TG := fun v σ H Q => ∃ a xs, v = .ref a ∧ SqL K H a xs ∧ xs.length = n ∧ t xs σ H Q
theorem pg_tupL {X : Cx} {es : List Expr} {k : Nat} {pos : Pos} {t : TGs} {n : Nat} (hc : X.calm = true) (h : PGs X es t)
    (hn : (assignEach es X.env).length = n := by rfl) (hst : (assignEach es X.env).findIdx? (·.1) = none := by rfl) : PG X (.Tuple es k pos) (gTupL X.K n t) := by
  refine ⟨fun pins s σ H v u Q I r hw => ?_⟩
  obtain ⟨a, xs, e1, hq, hl, hw⟩ := hw
  subst e1
  cases r
  obtain ⟨its, rv, ht, hz⟩ := I.list hq
  rw [assign_Tuple]
  refine wpAny_bind (wpAny_standAt (unpack_list (I.ok.hd hc) ht.isList (by simp [hn, ← hl, rv.length]) hst fun h' hx => ?_))
  have I1 : Inv X pins σ H { s with heap := h' } := I.kept (t' := s.toks) fun b o e => hx b o (Nat.ne_of_lt (Heap.lt_size e)) e
  exact h.run pins _ σ H xs _ Q I1 (by simpa using rv) hw
theorem wg_tupL {B : Bd} {Γ Γ' : Ctx} {gs : TGs} {rs : List Rel} {js : List Nat} {n : Nat} (hn : rs.length = n) (h : WpGs B Γ gs rs js Γ') : WpG B Γ (gTupL B.K n gs) (rLst rs) js Γ' := fun σ H v E p Q q => by
  obtain ⟨a, o, xs, rfl, hs, hal⟩ := p
  exact ⟨a, xs, rfl, .inl (.inr ⟨o, hs⟩), by rw [← Paired.length hal]; exact hn, h σ H xs E hal Q q⟩
/-- any target -/
theorem ws_asgG {B : Bd} {Γ Γ' : Ctx} {D : Ends} {te : TE} {g : TG} {tz : TS} (h : WpE B Γ te fun r => ∃ js Γ', WpG B Γ g r js Γ' ∧ WpS B D Γ' tz) : WpS B D Γ (tSeq (tAsg te g) tz) := fun σ H E =>
  h σ H E _ fun r v H' ⟨js, Γ', hg, hz⟩ p e => hg σ H' v (E.mono e) p _ fun σ' H'' E' _ _ _ => hz σ' H'' E'

/-! ### a def's promise over other words for the heap -/
structure Re (H H' : Hp) : Prop where
  non : ∀ b, H b = none ↔ H' b = none
  tup : ∀ b xs, H b = some (.tup xs) ↔ H' b = some (.tup xs)
  frz : ∀ b o u, H b = some (.frz o u) ↔ H' b = some (.frz o u)
  tbl : ∀ b ps, H b = some (.tbl ps) ↔ H' b = some (.tbl ps)
theorem Re.put {H : Hp} {a : Addr} {o o' : HO} (h : H a = some o) (h1 : ∀ xs, o ≠ .tup xs) (h2 : ∀ b u, o ≠ .frz b u) (h3 : ∀ ps, o ≠ .tbl ps) (g1 : ∀ xs, o' ≠ .tup xs) (g2 : ∀ b u, o' ≠ .frz b u) (g3 : ∀ ps, o' ≠ .tbl ps) : Re H (upd H a o') := by
  have key : ∀ b, b = a ∨ upd H a o' b = H b := fun b => by
    by_cases e : b = a
    · exact .inl e
    · exact .inr (upd_ne e)
  refine ⟨fun b => ?_, fun b xs => ?_, fun b q u => ?_, fun b ps => ?_⟩
  · rcases key b with rfl | e
    · rw [h, upd_same]; exact ⟨(fun z => nomatch z), (fun z => nomatch z)⟩
    · rw [e]
  · rcases key b with rfl | e
    · rw [h, upd_same]; exact ⟨fun z => absurd (Option.some.inj z) (h1 xs), fun z => absurd (Option.some.inj z) (g1 xs)⟩
    · rw [e]
  · rcases key b with rfl | e
    · rw [h, upd_same]; exact ⟨fun z => absurd (Option.some.inj z) (h2 q u), fun z => absurd (Option.some.inj z) (g2 q u)⟩
    · rw [e]
  · rcases key b with rfl | e
    · rw [h, upd_same]; exact ⟨fun z => absurd (Option.some.inj z) (h3 ps), fun z => absurd (Option.some.inj z) (g3 ps)⟩
    · rw [e]
theorem Re.refl (H : Hp) : Re H H := ⟨fun _ => Iff.rfl, fun _ _ => Iff.rfl, fun _ _ _ => Iff.rfl, fun _ _ => Iff.rfl⟩
theorem FnOk.re {P : Program} {w : World} {K : PySem.W.Frag} {mg : Str → Option Value} {base : Heap} {k : Nat} {f : Addr} {fd : FuncData} {ps : List Str} {sp sp' : Sp} (F : FnOk P w K mg base CX0 k f fd ps sp)
    (hl : ∀ vs H Q E, sp' vs H Q E → vs.length = ps.length)
    (h : ∀ vs H Q E hp, HOk P w H hp → sp' vs H Q E → ∃ H1, Re H H1 ∧ HOk P w H1 hp ∧ sp vs H1 (fun v H2 => ∀ hp', HOk P w H2 hp' → ∃ H3, Re H2 H3 ∧ HOk P w H3 hp' ∧ Q v H3) E) : FnOk P w K mg base CX0 k f fd ps sp' := by
  refine ⟨hl, fun A outer s H args us vs Q E hr e0 hb hv hs => ?_⟩
  obtain ⟨H1, re, ok, hsp⟩ := h vs H Q E s.heap e0.hok hs
  have e1 : Env0 P w K mg base A outer s H1 := ⟨e0.frames, e0.mod, fun b o q => ⟨(e0.bs b o q).1, (re.non b).mp (e0.bs b o q).2⟩, e0.bsz, e0.funs, fun b hb => (re.non b).mp (e0.frf b hb), ok, e0.bare⟩
  refine codeAny_mono (F.run A outer s H1 args us vs _ E hr e1 hb hv hsp) fun r s' q => ?_
  cases r with
  | error e => exact q
  | ok fl =>
    cases fl with
    | ret u =>
      obtain ⟨v, H2, os, bare, un, ok2, rv, q⟩ := q
      obtain ⟨H3, re3, ok3, q⟩ := q s'.heap ok2
      refine ⟨v, H3, os, bare, ⟨fun b o g n => un.keep b o g ((re.non b).mp n), fun b o g n => un.slot b o g ((re.non b).mp n), fun b o g n hx => (re3.non b).mp (un.free b o g ((re.non b).mp n) hx), un.there, fun b xs g => (re3.tup b xs).mp (un.tups b xs ((re.tup b xs).mp g)), fun b o u g => (re3.frz b o u).mp (un.frzs b o u ((re.frz b o u).mp g)), fun b ps g => ?_⟩, ok3, rv, q⟩
      obtain ⟨more, g'⟩ := un.tbls b ps ((re.tbl b ps).mp g)
      exact ⟨more, (re3.tbl b _).mp g'⟩
    | next => exact q
    | brk => exact q
    | cont => exact q
end BX
set_option Elab.async false
set_option linter.all false
set_option maxRecDepth 100000
set_option maxHeartbeats 1000000
/-! BXk: defs: their promises by relations. -/
namespace BX
open PySem PySem.Spec PyProof.Rows L2

/-- what may be returned -/
def RtK (B : Bd) (k : Rel → Prop) (D : Ends) : Prop := ∀ r v H', k r → r.p v H' → Same B.H0 H' → D.rt v H'
theorem RtK.more {B : Bd} {k : Rel → Prop} {D D' : Ends} {G st} (h : RtK B k D) (e : D'.rt = D.rt) : RtK (B.more G st) k D' := fun r v H' q p s => by rw [e]; exact h r v H' q p s
theorem ws_retk {B : Bd} {Γ : Ctx} {te : TE} {k : Rel → Prop} {D : Ends} (hD : RtK B k D) (h : WpE B Γ te k) : WpS B D Γ (tRet te) := fun σ H E => h σ H E _ fun r v H' q p e => hD r v H' q p (Same.trans E.ex e)
/-- the end of the body is reached -/
def NxK (B : Bd) (k : Rel → Prop) (D : Ends) : Prop := ∀ σ H', k rNon → Same B.H0 H' → D.nx σ H'
theorem ws_end {B : Bd} {Γ : Ctx} {k : Rel → Prop} {D : Ends} (hN : NxK B k D) (hk : k rNon) : WpS B D Γ tNext := fun σ H E => hN σ H hk E.ex
/-- the slots at a def's entry -/
def ctx0 (n : Nat) (rs : List Rel) : Ctx := rs.map Ty.im ++ List.replicate (n - rs.length) Ty.no
theorem env0 {B : Bd} (hB : ∀ H, B.fx H) {n : Nat} {rs : List Rel} {vs : List V} {N : List Str} (hn : N.length = n) (h : Al B.H0 rs vs) : Env B (ctx0 n rs) (L2.start N vs) B.H0 := by
  have hl : rs.length = vs.length := Paired.length h
  have key : ∀ (i : Nat) t, (ctx0 n rs)[i]? = some t → (∃ r v, t = .im r ∧ (L2.start N vs)[i]? = some (some v) ∧ r.p v B.H0) ∨ (t = .no ∧ (L2.start N vs)[i]? = some none) := by
    intro i t e
    unfold ctx0 at e
    unfold L2.start
    rcases Nat.lt_or_ge i rs.length with hi | hi
    · rw [List.getElem?_append_left (by rw [List.length_map]; exact hi), List.getElem?_map, List.getElem?_eq_getElem hi] at e
      cases e
      obtain ⟨v, hv, p⟩ := h.get' (List.getElem?_eq_getElem hi)
      refine .inl ⟨_, v, rfl, ?_, p⟩
      rw [List.getElem?_append_left (by rw [List.length_map, ← hl]; exact hi), List.getElem?_map, hv]
      rfl
    · rw [List.getElem?_append_right (by rw [List.length_map]; exact hi), List.length_map, List.getElem?_replicate] at e
      split at e
      · cases e
        refine .inr ⟨rfl, ?_⟩
        rw [List.getElem?_append_right (by rw [List.length_map, ← hl]; exact hi), List.length_map, List.getElem?_replicate, if_pos (by omega)]
      · cases e
  refine ⟨?_, Same.refl _, hB _, fun i t e => ?_, fun i j t u l hij e1 e2 m1 m2 q1 q2 => ?_⟩
  · unfold ctx0 L2.start
    simp only [List.length_append, List.length_map, List.length_replicate]
    omega
  · rcases key i t e with ⟨r, v, rfl, hv, p⟩ | ⟨rfl, hv⟩
    · exact ⟨_, hv, v, rfl, p⟩
    · exact ⟨_, hv, trivial⟩
  · rcases key i t e1 with ⟨r, v, rfl, _⟩ | ⟨rfl, _⟩ <;> cases m1
/-- the frame of a body -/
abbrev bd (P : Program) (w : World) (K : PySem.W.Frag) (H : Hp) : Bd := ⟨P, w, K, H, fun _ => True, fun _ _ _ _ => trivial⟩
theorem read_of (P : Program) (w : World) (K : PySem.W.Frag) {H : Hp} {n : Nat} {vs : List V} {N : List Str} {t : TS} {S : Spc} {Q : VK} {E : XK} (h : spOf S vs H Q E) (hn : N.length = n)
    (hw : ∀ rs k (D : Ends), S rs k → RtK (bd P w K H) k D → NxK (bd P w K H) k D → WpS (bd P w K H) D (ctx0 n rs) t) : t { nx := fun _ H' => Q .non H', rt := Q } (L2.start N vs) H := by
  obtain ⟨rs, k, hal, hs, hQ⟩ := h
  exact hw rs k _ hs (fun r v H' q p e => hQ r v H' q p e) (fun σ H' q e => hQ rNon .non H' q rfl e) _ _ (env0 (B := bd P w K H) (fun _ => trivial) hn hal)
theorem len_of {S : Spc} {n : Nat} (hS : ∀ rs k, S rs k → rs.length = n) : ∀ vs H Q E, spOf S vs H Q E → vs.length = n := fun vs H Q E ⟨rs, k, hal, hs, _⟩ => by
  rw [← Paired.length hal]
  exact hS rs k hs
/-- a def that may be called -/
structure Callee (P : Program) (w : World) (K : PySem.W.Frag) (mg : Str → Option Value) (base : Heap) (f : Addr) (fd : FuncData) (ps : List Str) (lv : Nat) (sp : Sp) : Prop where
  kp : PySem.W.keepIn K (.ref f) = true
  b : Binds K fd ps []
  F : FnOk P w K mg base CX0 lv f fd ps sp
end BX
set_option Elab.async false
set_option linter.all false
set_option maxRecDepth 100000
set_option maxHeartbeats 1000000
/-! BXl: enumerate over a tuple; floor division in place. -/
namespace BX
section
open PySem
open Sem (wp)
open AutoSeq1 (wpAny_loadPart')
theorem meets_enumerate_newT (l : Addr) (items : Array Value) (n : Nat) (dct : Option Addr) (sl : Array (Option Value)) :
    Meets (Builtin.«enumerate.__new__» ⟨[.type "enumerate", .ref l], []⟩) (fun _ R s => s.heap.get? l = some { cls := .type "tuple", dict := dct, data := .seq items n, slots := sl } ∧
      R (.ok (.ret (.ref (s.heap.push { cls := .type "tuple_iterator", data := .fields #[.ref l, .int 0 0] }).objs.size)))
        { s with heap := (s.heap.push { cls := .type "tuple_iterator", data := .fields #[.ref l, .int 0 0] }).push { cls := .type "enumerate", data := .fields #[.none, .bool false, .ref s.heap.objs.size, rawInt 0, .none, .none] } }) :=
  .of_wp fun prog w A R s h => by
    obtain ⟨hp, g, d, tk, os⟩ := s; obtain ⟨hl, h⟩ := h
    have hsub := sub_enumerate
    have hL : Heap.IsTuple (Shared.heap ⟨hp, g, d, tk, os⟩) l items := ⟨_, hl, rfl, n, rfl⟩
    wp_walk using wpAny_loadPart' hl
    refine wpAny_stack_any fun st => wpAny_pure ?_
    split
    · rename_i c _ _ _ _ _
      cases (c == Value.type "enumerate")
      · wp_walk using wpAny_loadPart' hl, wpAny_pyIter_tuple hL
        exact ⟨_, rfl, h⟩
      · wp_walk using wpAny_loadPart' hl, wpAny_pyIter_tuple hL
        exact ⟨_, rfl, h⟩
    · wp_walk using wpAny_loadPart' hl, wpAny_pyIter_tuple hL
      exact ⟨_, rfl, h⟩

section
variable {prog : Program} {w : World} {A : Around} {E : Value → Shared → Prop} {s : Shared}
theorem call_enumerate_tuple {l : Addr} {items : Array Value} {Q : Value → Shared → Prop} (hL : s.heap.IsTuple l items)
    (h : ∀ h', IsEnum h' (s.heap.objs.size + 1) s.heap.objs.size 0 .none → h'.IsTupleIter s.heap.objs.size l 0 → h'.objs.size = s.heap.objs.size + 2 →
      (∀ b o, s.heap.get? b = some o → h'.get? b = some o) → Q (.ref (s.heap.objs.size + 1)) { s with heap := h' }) :
    wpAny (model prog w) A (call (.type "enumerate") [.ref l]) Q E s := by
  obtain ⟨⟨c, dct, dt, sl⟩, hl, hc, n, hd⟩ := hL
  replace hc : c = .type "tuple" := hc
  replace hd : dt = .seq items n := hd
  subst hc hd
  refine callType_new F.called_enumerate (by decide) (F.typeCall_enumerate_1 _) (F.newCall_enumerate_1 _) (fun obj => F.args_object_init_2 obj _) F.entry_enumerate_new
    (meets_enumerate_newT l items n dct sl) ⟨hl, ?_⟩
  have hz : (s.heap.push { cls := .type "tuple_iterator", data := .fields #[.ref l, .int 0 0] }).objs.size = s.heap.objs.size + 1 := Heap.size_push ..
  show _ ∧ _
  rw [hz]
  have he : IsEnum ((s.heap.push { cls := .type "tuple_iterator", data := .fields #[.ref l, .int 0 0] }).push
      { cls := .type "enumerate", data := .fields #[.none, .bool false, .ref s.heap.objs.size, rawInt 0, .none, .none] }) (s.heap.objs.size + 1) s.heap.objs.size 0 .none := by
    have := Heap.get?_push_size (s.heap.push { cls := .type "tuple_iterator", data := .fields #[.ref l, .int 0 0] })
      (o := { cls := .type "enumerate", data := .fields #[.none, .bool false, .ref s.heap.objs.size, rawInt 0, .none, .none] }) rfl
    rw [hz] at this; exact this
  refine ⟨⟨_, he, rfl⟩, h _ he ⟨_, Heap.get?_push_of_some _ (Heap.get?_push_size _ rfl), rfl, rfl⟩ (by rw [Heap.size_push, hz]) fun b o x => Heap.get?_push_of_some _ (Heap.get?_push_of_some _ x)⟩

end
end
open PySem PySem.Spec PyProof.Rows L2
/-! ### enumerate(tuple) -/
def IteT (K : PySem.W.Frag) (a : Addr) : It :=
  ⟨fun i H => ∃ (xs : List V) (x : V), SqT K H a xs ∧ xs[i]? = some x, fun i H v H' => ∃ T x, v = .ref T ∧ H T = none ∧ H' = upd H T (.tup [.int (i : Nat), x]) ∧ ∀ xs, SqT K H a xs → xs[i]? = some x, fun i H => ∃ xs : List V, SqT K H a xs ∧ xs.length = i⟩
theorem sqT_inj {X : Cx} {pins : List (Addr × Obj)} {σ : L2.St} {H : Hp} {s : Shared} {a : Addr} {xs ys : List V} (I : Inv X pins σ H s) (h : SqT X.K H a xs) (h' : SqT X.K H a ys) : xs = ys := I.tuple_inj h h'
theorem turn_enumT {P : Program} {w : World} {K : PySem.W.Frag} {elts : List Expr} {kk : Nat} {tpos : Pos} (a e it : Addr) :
    Turn P w K (.Tuple elts kk tpos) (IteT K a) [e, it] e (fun i h => (∃ old, IsEnum h e it ((i : Nat) : Int) old) ∧ h.IsTupleIter it a i ∧ (e ≠ it ∧ a ≠ it ∧ e ≠ a)) where
  mem := by simp
  obj := fun i h st b hb => by
    obtain ⟨⟨old, he⟩, ⟨o, ho, hc, hd⟩, _⟩ := st
    have e' : b = e ∨ b = it := by simpa using hb
    rcases e' with z | z
    · rw [z]; exact ⟨_, he, fun v q => nomatch q⟩
    · rw [z]; exact ⟨o, ho, fun v q => by rw [hd] at q; cases q⟩
  keep := fun i h h' st k => let ⟨⟨old, he⟩, hi, hne⟩ := st; ⟨⟨old, k e (by simp) _ he⟩, hi.at fun o q => k it (by simp) o q, hne⟩
  item := by
    intro X hP hw hK hc i pins s σ H E I hf st hg
    subst hP hw hK
    obtain ⟨⟨old, he⟩, hit, hne⟩ := st
    obtain ⟨xs, x, hq, hx⟩ := hg
    obtain ⟨its, rv, p, hz⟩ := I.tuple hq
    obtain ⟨u, hu, ru⟩ := rv.get hx
    have hel : e < s.heap.objs.size := Heap.lt_size he
    have hil : it < s.heap.objs.size := by obtain ⟨_, q, _⟩ := hit; exact Heap.lt_size q
    refine wpAny_pyNext_enum_itemD (Draws.tuple (A := X.A.in1) (I.ok.hd hc) it a hne.2.1 its.toArray) he ⟨hit, p⟩ (by simpa using (List.getElem?_eq_some_iff.mp hu).1) hne.1 (by simp [hne.1, hne.2.2]) fun u' h' tk hu' ho hit' hT hsz hk => ?_
    have eu : u' = u := by
      have q : its.toArray[i]? = some u := by simpa using hu
      have q' : its.toArray[i]? = some u' := hu'
      rw [q] at q'
      exact (Option.some.inj q').symm
    rw [eu] at ho hT
    refine ⟨_, rfl, wpAny_letOwnedTupleGo_enum (s := { s with heap := h', toks := tk + 1 }) ho fun h'' he' sb => ?_⟩
    have hT2 : h''.get? s.heap.objs.size = some { cls := .type "tuple", data := .seq #[.int i tk, u] } := (sb.2 _ (Nat.ne_of_gt hel)).trans hT
    have new : ObjOk X.prog X.w (upd H s.heap.objs.size (.tup [.int (i : Nat), x])) h'' s.heap.objs.size (.tup [.int (i : Nat), x]) :=
      ⟨by show 2 ≤ sizeLine; decide, [.int i tk, u], .cons ⟨_, rfl⟩ (.cons ru .nil), ⟨_, hT2, rfl, _, rfl⟩⟩
    have I1 : Inv X pins σ (upd H s.heap.objs.size (.tup [.int (i : Nat), x])) { s with heap := h'', toks := tk + 1 } :=
      I.turnedNew (ch := [e, it]) (fun b ob hb q => (sb.2 b (fun z => hb (by simp [z]))).trans (hk b ob (fun z => hb (by simp [z])) (fun z => hb (by simp [z])) q)) hf (Nat.le_refl _) new
    refine ⟨.ref s.heap.objs.size, _, I1, rfl, ⟨_, x, rfl, I.hok.fresh (Nat.le_refl _), rfl, fun ys hy => by rw [sqT_inj I hy hq]; exact hx⟩, ⟨⟨u, ?_⟩, hit'.1.at fun o q => (sb.2 it (Ne.symm hne.1)).trans q, hne⟩, fun b hb => ?_⟩
    · have e1 : ((i + 1 : Nat) : Int) = (i : Int) + 1 := by omega
      rw [e1]; exact he'
    · have hb' : b < s.heap.objs.size := by
        have e' : b = e ∨ b = it := by simpa using hb
        rcases e' with z | z
        · rw [z]; exact hel
        · rw [z]; exact hil
      rw [upd_ne (Nat.ne_of_lt hb')]
      exact (hf b hb).1
  done := by
    intro X hP hw hK hc i pins s σ H E I hf st hg
    subst hP hw hK
    obtain ⟨⟨old, he⟩, hit, hne⟩ := st
    obtain ⟨xs, hq, hx⟩ := hg
    obtain ⟨its, rv, p, hz⟩ := I.tuple hq
    obtain ⟨f0, f1, f2, f3, f4, f5⟩ := hf it (by simp)
    have hl := rv.length
    have ei : i = its.toArray.size := by simp; omega
    subst ei
    exact wpAny_pyNext_enum_endD (Draws.tuple (A := X.A.in1) (I.ok.hd hc) it a hne.2.1 its.toArray) he ⟨hit, p⟩ fun h' eb => ⟨rfl, I.turned (t' := s.toks) (fun b o hb q => eb b o hb q) f0 f1 f3 f4 f5⟩
  self := fun A i s Q E st h => let ⟨⟨_, he⟩, _⟩ := st; wpAny_pyIter_enum he h
def iEnumT (K : PySem.W.Frag) (ta : TA) : TI := fun σ H R => ta σ H fun vs H1 => ∃ a xs, vs = [.ref a] ∧ SqT K H1 a xs ∧ R (IteT K a) H1
theorem pi_enumT {X : Cx} {e : Expr} {ta : TA} {p pos tpos : Pos} {elts : List Expr} {kk : Nat} (hg : Gl X "enumerate") (hm : X.mg "enumerate" = none) (ha : PA X [e] ta) (hs : starEach [e] X.env = [(false, eval e X.env)] := by rfl) :
    PI X (.Tuple elts kk tpos) (.Call (.Name "enumerate" p) [e] [] pos) (iEnumT X.K ta) := by
  refine ⟨fun pins s σ H R I h => ?_⟩
  refine Call_ (ld_blt I hg hm boot_enumerate (PyProof.Rows.callWith_type1 (thn (ha.run pos pins s σ H _ I h) fun us s1 ⟨vs, H1, I1, r1, q1⟩ => ?_) hs rfl))
  obtain ⟨a, xs, ex, hq, q⟩ := q1
  subst ex
  cases r1 with
  | cons r rr =>
    cases rr
    cases r
    obtain ⟨its, rv, p', hz⟩ := I1.tuple hq
    have alt : a < s1.heap.objs.size := by obtain ⟨_, q, _⟩ := p'; exact Heap.lt_size q
    refine call_enumerate_tuple p' fun h' he hit hsz hk => wpAny_pyIter_enum he ?_
    have I2 : Inv X pins σ H1 { s1 with heap := h' } := I1.kept (t' := s1.toks) hk
    refine ⟨s1.heap.objs.size + 1, [s1.heap.objs.size + 1, s1.heap.objs.size], _, _, H1, rfl, I2, turn_enumT a (s1.heap.objs.size + 1) s1.heap.objs.size, ⟨⟨.none, he⟩, hit, ⟨Nat.succ_ne_self _, Nat.ne_of_lt alt, Nat.ne_of_gt (Nat.lt_succ_of_lt alt)⟩⟩, fun b hb => ?_, q⟩
    have e' : b = s1.heap.objs.size + 1 ∨ b = s1.heap.objs.size := by simpa using hb
    have hle : s1.heap.objs.size ≤ b := by
      rcases e' with z | z
      · rw [z]; exact Nat.le_add_right _ _
      · rw [z]; exact Nat.le_refl _
    exact I1.fpOk hle (I1.hok.fresh hle)
theorem walk_enumT {K : PySem.W.Frag} {a : Addr} {xs : List V} : Walk (IteT K a) xs.length (fun H => SqT K H a xs) (YPair (fun i => some (.int (i : Nat))) (fun i => xs[i]?)) := by
  refine ⟨fun i _ hi q => ⟨xs, xs[i], q, by simp [hi]⟩, fun _ q => ⟨xs, q, rfl⟩, fun i H v H' _ q y => ?_⟩
  obtain ⟨T, x, h1, h2, h3, h4⟩ := y
  exact ⟨T, .int (i : Nat), x, h1, h2, h3, rfl, h4 xs q⟩
theorem wi_enumT {B : Bd} {Γ : Ctx} {ta : TA} {k : Nat → (Nat → Rel) → Prop} (h : WpA B Γ ta fun rs' => ∃ rs, rs' = [rTup B.K rs] ∧ k rs.length fun i => rTup B.K [rInt (i : Int), rs.getD i (rC .non)]) : WpI B Γ (iEnumT B.K ta) k := fun σ H E R hR =>
  h σ H E _ fun rs' vs H1 ⟨rs, er, hk⟩ p e => by
    subst er
    cases p with
    | cons p t =>
      cases t
      obtain ⟨a, xs, rfl, hs, hal⟩ := p
      refine ⟨a, xs, rfl, hs, ?_⟩
      have hl : xs.length = rs.length := (Paired.length hal).symm
      have w : Walk (IteT B.K a) rs.length (fun H => SqT B.K H a xs ∧ Al H rs xs) (YPair (fun i => some (.int (i : Nat))) (fun i => xs[i]?)) := by
        rw [← hl]
        exact walk_enumT.mono (fun _ z => z.1) fun _ _ _ _ _ _ y => y
      refine hR _ _ _ _ _ H1 hk e w ⟨hs, hal⟩ (fun H1 H2 im z => ⟨sqT_im im z.1, z.2.st im⟩) fun i H1 x H2 hi z y => ?_
      obtain ⟨T, x1, x2, rfl, hT, rfl, h1, h2⟩ := y
      cases h1
      obtain ⟨r, hr, pr⟩ := z.2.get h2
      refine ⟨Same.new hT, T, _, rfl, .inl (.inl upd_same), .cons rfl (.cons ?_ .nil)⟩
      rw [List.getD_eq_getElem?_getD, hr]
      exact r.st (Same.im (Same.new hT)) pr
/-- floor division in place -/
theorem ip_fdivN {X : Cx} : PIp X .FloorDiv (rI CDivN fun i j => .int (i.fdiv j)) := by
  intro pins s σ H x y v u Q I r1 r2 h
  obtain ⟨i, j, e1, e2, c, q⟩ := h
  subst e1; subst e2
  obtain ⟨t, rfl⟩ := r1
  obtain ⟨t', rfl⟩ := r2
  exact AutoIntOps.ifloordiv_1 (by simpa using c.1) (by rw [PyProof.noPylong_small c.2]; exact Bool.false_ne_true) ⟨.int _, H, I.tok _, ⟨_, rfl⟩, q⟩
end BX
set_option Elab.async false
set_option linter.all false
set_option maxRecDepth 100000
set_option maxHeartbeats 1000000
/-! BXn: comprehensions as filterMap, loops as folds. -/
namespace BX
open PySem PySem.Spec PyProof.Rows L2

-- less is told: shown item by item
section
variable {B : Bd} {Γ : Ctx} {D : Ends}
theorem take_succ_at {α : Type} {L : List α} {i : Nat} (h : i < L.length) : L.take (i + 1) = L.take i ++ [L[i]] := by
  rw [List.take_add_one, List.getElem?_eq_getElem h]
  rfl
theorem wl_lcF {α β : Type} (L : List α) {g : α → Rel} {f : α → Option β} {h : β → Rel} {wi : TI} {g' : TG} {tt : TT} {te : TE} {vs : List Nat} {kl : List Rel → Prop}
    (hw : WpI B Γ wi fun n rs => n = L.length ∧ (∀ i (hi : i < L.length), rs i = g L[i]) ∧ L.length ≤ sizeLine ∧
      (∀ x ∈ L, ∀ G st, ∃ Γ2 js, (∀ j, j ∈ js → j ∈ vs) ∧ WpG (B.more G st) (wipeC Γ vs) g' (g x) js Γ2 ∧
        WpT (B.more G st) Γ2 tt fun b => (b = true → ∃ y, f x = some y ∧ WpE (B.more G st) Γ2 te fun r => r = h y) ∧ (b = false → f x = none)) ∧ kl ((L.filterMap f).map h)) : WpL B Γ (tLc wi g' tt te vs) kl := by
  refine wl_lc fun σ H E R hR => hw σ H E R fun J n rs G Y H' ⟨hn, hr, hz, hs, hk⟩ => hR J n rs G Y H' ?_
  subst hn
  refine ⟨fun i es => es = ((L.take i).filterMap f).map h, by simp, fun i hi es hes G st => ?_, fun es hes => ?_⟩
  · obtain ⟨Γ2, js, h1, h2, h3⟩ := hs L[i] (List.getElem_mem hi) G st
    rw [← hr i hi] at h2
    refine ⟨Γ2, js, h1, h2, fun σ H E Q hQ => h3 σ H E Q fun b H' ⟨q1, q2⟩ => hQ b H' ⟨fun hb => ?_, fun hb => ?_⟩⟩
    · obtain ⟨y, hy, he⟩ := q1 hb
      refine we_mono he fun r er => ⟨?_, ?_⟩
      · subst hes
        rw [List.length_map]
        have a := List.length_filterMap_le f (L.take i)
        rw [List.length_take] at a
        omega
      · show es ++ [r] = ((L.take (i + 1)).filterMap f).map h
        rw [hes, er, take_succ_at hi, List.filterMap_append, List.map_append]
        simp [hy]
    · show es = ((L.take (i + 1)).filterMap f).map h
      rw [hes, take_succ_at hi, List.filterMap_append, List.map_append]
      simp [q2 hb]
  · have hes' : es = ((L.take L.length).filterMap f).map h := hes
    rw [hes', List.take_length]
    exact hk
/-- all are kept -/
theorem wl_lcM {α : Type} (L : List α) {g : α → Rel} {h : α → Rel} {wi : TI} {g' : TG} {te : TE} {vs : List Nat} {kl : List Rel → Prop}
    (hw : WpI B Γ wi fun n rs => n = L.length ∧ (∀ i (hi : i < L.length), rs i = g L[i]) ∧ L.length ≤ sizeLine ∧
      (∀ x ∈ L, ∀ G st, ∃ Γ2 js, (∀ j, j ∈ js → j ∈ vs) ∧ WpG (B.more G st) (wipeC Γ vs) g' (g x) js Γ2 ∧ WpE (B.more G st) Γ2 te fun r => r = h x) ∧ kl (L.map h)) : WpL B Γ (tLc wi g' tYes te vs) kl := by
  refine wl_lcF (f := fun x => some x) (h := h) L fun σ H E R hR => hw σ H E R fun J n rs G Y H' ⟨hn, hr, hz, hs, hk⟩ => hR J n rs G Y H' ⟨hn, hr, hz, fun x hx G st => ?_, by rw [List.filterMap_some]; exact hk⟩
  obtain ⟨Γ2, js, h1, h2, h3⟩ := hs x hx G st
  exact ⟨Γ2, js, h1, h2, wt_yes ⟨fun _ => ⟨x, rfl, h3⟩, fun z => nomatch z⟩⟩
theorem ws_nextW {Γ' : Ctx} (e : D.nx = EnvP B Γ') (h : Weak Γ Γ') : WpS B D Γ tNext := fun σ H E => by
  show D.nx σ H
  rw [e]
  exact E.wk h
/-- a loop as a fold -/
theorem ws_forF {α S : Type} (L : List α) {g : α → Rel} (s0 : S) (step : S → α → S) (Γs : S → Ctx) {wi : TI} {g' : TG} {tb tz : TS}
    (hw : WpI B Γ wi fun n rs => n = L.length ∧ (∀ i (hi : i < L.length), rs i = g L[i]) ∧ Weak Γ (Γs s0) ∧
      (∀ i (hi : i < L.length), ∀ G st, ∃ Γ2 js, WpG (B.more G st) (Γs ((L.take i).foldl step s0)) g' (g L[i]) js Γ2 ∧
        WpS (B.more G st) { D with nx := EnvP (B.more G st) (Γs (step ((L.take i).foldl step s0) L[i])), ct := EnvP (B.more G st) (Γs (step ((L.take i).foldl step s0) L[i])), bk := tz D } Γ2 tb) ∧
      WpS B D (Γs (L.foldl step s0)) tz) : WpS B D Γ (tSeq (tFor wi g' tb) tz) := fun σ H E => by
  refine hw σ H E _ fun J n rs G Y H1 ⟨hn, hr, hwk, hs, hz⟩ e w hG im hY => ?_
  subst hn
  refine for_it w (fun i σ H => Env (B.more G im) (Γs ((L.take i).foldl step s0)) σ H) (((E.mono e).wk hwk).more hG) (fun i σ H _ p => p.fx.2) (fun i x σ' H2 H3 hi p y => ?_) fun σ' H2 p => ?_
  · obtain ⟨e1, px⟩ := hY i H2 x H3 hi p.fx.2 y
    rw [hr i hi] at px
    obtain ⟨Γ2, js, hg, hb⟩ := hs i hi G im
    refine hg σ' H3 x (p.mono e1) px _ fun σ2 H4 E2 _ _ _ => ?_
    have q := hb σ2 H4 E2
    have et : (L.take (i + 1)).foldl step s0 = step ((L.take i).foldl step s0) L[i] := by
      rw [take_succ_at hi, List.foldl_append]
      rfl
    rw [et]
    exact q
  · rw [List.take_length] at p
    exact hz σ' H2 p.less
/-- a loop whose ways are any: what is known of the state behind i turns -/
theorem ws_forP {α S : Type} (L : List α) {g : α → Rel} (I : Nat → S → Prop) (s0 : S) (Γs : S → Ctx) {wi : TI} {g' : TG} {tb tz : TS}
    (hw : WpI B Γ wi fun n rs => n = L.length ∧ (∀ i (hi : i < L.length), rs i = g L[i]) ∧ Weak Γ (Γs s0) ∧ I 0 s0 ∧
      (∀ i (hi : i < L.length) s, I i s → ∀ G st, ∃ Γ2 js, WpG (B.more G st) (Γs s) g' (g L[i]) js Γ2 ∧
        WpS (B.more G st) { D with nx := fun σ H => ∃ s', I (i + 1) s' ∧ Env (B.more G st) (Γs s') σ H, ct := fun σ H => ∃ s', I (i + 1) s' ∧ Env (B.more G st) (Γs s') σ H, bk := tz D } Γ2 tb) ∧
      ∀ s, I L.length s → WpS B D (Γs s) tz) : WpS B D Γ (tSeq (tFor wi g' tb) tz) := fun σ H E => by
  refine hw σ H E _ fun J n rs G Y H1 ⟨hn, hr, hwk, h0, hs, hz⟩ e w hG im hY => ?_
  subst hn
  refine for_it w (fun i σ H => ∃ s, I i s ∧ Env (B.more G im) (Γs s) σ H) ⟨s0, h0, ((E.mono e).wk hwk).more hG⟩ (fun i σ H _ ⟨s, _, p⟩ => p.fx.2) (fun i x σ' H2 H3 hi ⟨s, hI, p⟩ y => ?_) fun σ' H2 ⟨s, hI, p⟩ => hz s hI σ' H2 p.less
  obtain ⟨e1, px⟩ := hY i H2 x H3 hi p.fx.2 y
  rw [hr i hi] at px
  obtain ⟨Γ2, js, hg, hb⟩ := hs i hi s hI G im
  exact hg σ' H3 x (p.mono e1) px _ fun σ2 H4 E2 _ _ _ => hb σ2 H4 E2
theorem ws_nextI {S : Type} {I : S → Prop} {Γs : S → Ctx} (e : D.nx = fun σ H => ∃ s', I s' ∧ Env B (Γs s') σ H) (s : S) (hI : I s) (h : Weak Γ (Γs s)) : WpS B D Γ tNext := fun σ H E => by
  show D.nx σ H
  rw [e]
  exact ⟨s, hI, E.wk h⟩
theorem ws_nextE {S : Ctx → Prop} (e : D.nx = EnvS B S) (Γ' : Ctx) (hw : Weak Γ Γ') (hs : S Γ') : WpS B D Γ tNext := fun σ H E => by
  show D.nx σ H
  rw [e]
  exact ⟨Γ', hs, E.wk hw⟩
/-- a dict comprehension as a fold -/
theorem wx_xdcF {α : Type} (L : List α) {g : α → Rel} (f : α → List Int × Rel) {wi : TI} {g' : TG} {tk tv : TE} {vs : List Nat} {kx : List (List Int × Rel) → Prop}
    (hw : WpI B Γ wi fun n rs => n = L.length ∧ (∀ i (hi : i < L.length), rs i = g L[i]) ∧ L.length ≤ sizeLine ∧
      (∀ x ∈ L, ∀ G st, ∃ Γ2 js, (∀ j, j ∈ js → j ∈ vs) ∧ WpG (B.more G st) (wipeC Γ vs) g' (g x) js Γ2 ∧ WpE (B.more G st) Γ2 tk fun r => r = rKey B.K (f x).1 ∧ WpE (B.more G st) Γ2 tv fun rv => rv = (f x).2) ∧
      kx (foldM (L.map f))) : WpX B Γ (tXDc B.P B.w B.K wi g' tYes tk tv vs) kx := by
  refine wx_xdc fun σ H E R hR => hw σ H E R fun J n rs G Y H' ⟨hn, hr, hz, hs, hk⟩ => hR J n rs G Y H' ?_
  subst hn
  have len : ∀ i, i ≤ L.length → (foldM ((L.take i).map f)).length ≤ i := by
    intro i hi
    have gen : ∀ (l : List (List Int × Rel)) acc, (l.foldl (fun acc e => putM acc e.1 e.2) acc).length ≤ acc.length + l.length := by
      intro l
      induction l with
      | nil => intro acc; exact Nat.le_refl _
      | cons e l ih =>
        intro acc
        have a := ih (putM acc e.1 e.2)
        have b : (putM acc e.1 e.2).length ≤ acc.length + 1 := by
          unfold putM
          split
          · rw [List.length_map]; omega
          · rw [List.length_append]; simp
        show (l.foldl _ (putM acc e.1 e.2)).length ≤ _
        rw [List.length_cons]
        omega
    have a := gen ((L.take i).map f) []
    rw [List.length_map, List.length_take] at a
    unfold foldM
    simp only [List.length_nil] at a
    omega
  refine ⟨fun i ks => ks = foldM ((L.take i).map f), by simp [foldM], fun i hi ks hks G st => ?_, fun ks hks => ?_⟩
  · obtain ⟨Γ2, js, h1, h2, h3⟩ := hs L[i] (List.getElem_mem hi) G st
    rw [← hr i hi] at h2
    refine ⟨Γ2, js, h1, h2, wt_yes ⟨fun _ => we_mono h3 fun r ⟨er, hv⟩ => ⟨_, er, we_mono hv fun rv ev => ⟨?_, ?_⟩⟩, fun z => nomatch z⟩⟩
    · have a := len i (Nat.le_of_lt hi)
      have hks' : ks = foldM ((L.take i).map f) := hks
      rw [← hks'] at a
      omega
    · show putM ks (f L[i]).1 rv = foldM ((L.take (i + 1)).map f)
      rw [show ks = foldM ((L.take i).map f) from hks, ev, take_succ_at hi, List.map_append]
      unfold foldM
      rw [List.foldl_append]
      rfl
  · have hks' : ks = foldM ((L.take L.length).map f) := hks
    rw [hks', List.take_length]
    exact hk
end
end BX
set_option Elab.async false
set_option linter.all false
set_option maxRecDepth 100000
set_option maxHeartbeats 1000000
/-! BXo: instances being made; tables of ints. -/
namespace BX
open PySem PySem.Spec PyProof.Rows L2

/-! ### an __init__ -/
/-- does not lean on an instance without attributes -/
def Ndx (r : Rel) : Prop := ∀ v H x C dx o, r.p v H → H x = some (.ins C dx []) → r.p v (upd H x o)
theorem ndx_c {v : V} : Ndx (rC v) := fun _ _ _ _ _ _ h _ => h
theorem sqT_ndx {K : PySem.W.Frag} {H : Hp} {a x C dx : Addr} {xs : List V} {o : HO} (h : SqT K H a xs) (hx : H x = some (.ins C dx [])) : SqT K (upd H x o) a xs := by
  rcases h with (h | ⟨ob, h⟩) | h
  · exact .inl (.inl (by rw [upd_ne (fun z => by rw [z, hx] at h; cases h)]; exact h))
  · exact .inl (.inr ⟨ob, by rw [upd_ne (fun z => by rw [z, hx] at h; cases h)]; exact h⟩)
  · exact .inr h
theorem ndx_tup {K : PySem.W.Frag} {rs : List Rel} (h : ∀ r ∈ rs, Ndx r) : Ndx (rTup K rs) := fun v H x C dx o p hx => by
  obtain ⟨a, xs, e, hs, hal⟩ := p
  refine ⟨a, xs, e, sqT_ndx hs hx, ?_⟩
  clear hs e
  induction hal with
  | nil => exact .nil
  | cons h1 t ih => exact .cons (h _ (List.mem_cons_self ..) _ _ _ _ _ _ h1 hx) (ih fun r hr => h r (List.mem_cons_of_mem _ hr))
abbrev bdI (P : Program) (w : World) (K : PySem.W.Frag) (H : Hp) (x C dx : Addr) : Bd := ⟨P, w, K, H, fun H' => H' x = some (.ins C dx []), fun _ _ e h => e _ _ ins_nc h⟩
/-- the end of an __init__ -/
def FinK (B : Bd) (x C dx : Addr) (fs : List (Str × Rel)) (D : Ends) : Prop := ∀ σ H1 xs, Same B.H0 H1 → H1 x = some (.ins C dx []) → Paired (fun (p : Str × Rel) (q : Str × V) => p.1 = q.1 ∧ p.2.p q.2 (upd H1 x (.ins C dx xs))) fs xs → D.nx σ (upd H1 x (.ins C dx xs))
theorem mk_of (P : Program) (w : World) (K : PySem.W.Frag) {H : Hp} {n : Nat} {vs : List V} {N : List Str} {t : TS} {C : Addr} {S : List Rel → List (Str × Rel) → Prop} {Q : VK} {E : XK} (h : spMk C S vs H Q E) (hn : N.length = n)
    (hw : ∀ rs fs (D : Ends) x dx, S rs fs → FinK (bdI P w K H x C dx) x C dx fs D → WpS (bdI P w K H x C dx) D (ctx0 n (rC (.ref x) :: rs)) t) : t { nx := fun _ H' => Q .non H', rt := Q } (L2.start N vs) H := by
  obtain ⟨x, dx, ws, rs, fs, rfl, hx, hal, hs, hQ⟩ := h
  have hl : rs.length = ws.length := Paired.length hal
  have e0 : Env (bd P w K H) (ctx0 n (rC (.ref x) :: rs)) (L2.start N (.ref x :: ws)) H := env0 (B := bd P w K H) (fun _ => trivial) hn (.cons rfl hal)
  exact hw rs fs _ x dx hs (fun σ H1 xs s1 g p => hQ H1 xs s1 p) _ _ ⟨e0.len, e0.ex, hx, fun i t e => let ⟨ov, h1, h2⟩ := e0.ty i t e; ⟨ov, h1, by cases t <;> exact h2⟩, e0.dis⟩
theorem len_mk {C : Addr} {S : List Rel → List (Str × Rel) → Prop} {n : Nat} (hS : ∀ rs fs, S rs fs → rs.length + 1 = n) : ∀ vs H Q E, spMk C S vs H Q E → vs.length = n := fun vs H Q E ⟨x, dx, ws, rs, fs, e, _, hal, hs, _⟩ => by
  rw [e, List.length_cons, ← Paired.length hal]
  exact hS rs fs hs
/-- self.f = e, the last statement -/
theorem ws_fldM {B : Bd} {Γ : Ctx} {D : Ends} {te : TE} {tn : TS} {x C dx : Addr} {fs : List (Str × Rel)} {f : Str} {i : Nat} (hi : Γ[i]? = some (.im (rC (.ref x)))) (hD : FinK B x C dx fs D) (hB : ∀ H, B.fx H → H x = some (.ins C dx [])) (c : Cls B.K C) (na : NoAttr B.K C f)
    (h : WpE B Γ te fun r => Ndx r ∧ fs = [(f, r)]) (hn : tn = tNext) : WpS B D Γ (tSeq (sFld B.K (tVar i) te f) tn) := fun σ H E => by
  subst hn
  refine h σ H E _ fun r y H1 ⟨nd, ef⟩ p e => ?_
  have E1 := E.mono e
  obtain ⟨v, h1, ev⟩ := E1.im_at hi
  cases ev
  have hx := hB H1 E1.fx
  refine ⟨_, h1, x, C, dx, [], rfl, hx, c, na, by decide, ?_⟩
  subst ef
  exact hD σ H1 [(f, y)] E1.ex hx (.cons ⟨rfl, nd _ _ _ _ _ _ p hx⟩ .nil)

/-! ### tables whose values are ints -/
abbrev PT := List (List Int × Int)
abbrev mI (m : PT) : List (List Int × Rel) := m.map fun e => (e.1, rInt e.2)
theorem getM_map {κ α β : Type} [DecidableEq κ] (f : α → β) (m : List (κ × α)) (k : κ) : getM (m.map fun e => (e.1, f e.2)) k = (getM m k).map f := by
  induction m with
  | nil => rfl
  | cons e m ih =>
    rw [List.map_cons, getM_cons, getM_cons]
    by_cases h : e.1 = k
    · rw [if_pos h, if_pos h]; rfl
    · rw [if_neg h, if_neg h]; exact ih
theorem putM_map {κ α β : Type} [DecidableEq κ] (f : α → β) (m : List (κ × α)) (k : κ) (a : α) : putM (m.map fun e => (e.1, f e.2)) k (f a) = (putM m k a).map fun e => (e.1, f e.2) := by
  unfold putM
  rw [getM_map, Option.isSome_map]
  split
  · rw [List.map_map, List.map_map]
    apply List.map_congr_left
    intro e _
    show (if e.1 = k then (e.1, f a) else (e.1, f e.2)) = _
    by_cases h : e.1 = k <;> simp [h]
  · rw [List.map_append]
    rfl
theorem foldM_map {α β : Type} (f : α → β) (m : List (List Int × α)) : foldM (m.map fun e => (e.1, f e.2)) = (foldM m).map fun e => (e.1, f e.2) := by
  have gen : ∀ (m acc : List (List Int × α)), (m.map fun e => (e.1, f e.2)).foldl (fun acc e => putM acc e.1 e.2) (acc.map fun e => (e.1, f e.2)) = (m.foldl (fun acc e => putM acc e.1 e.2) acc).map fun e => (e.1, f e.2) := by
    intro m
    induction m with
    | nil => intro acc; rfl
    | cons e m ih =>
      intro acc
      show (m.map _).foldl _ (putM (acc.map fun e => (e.1, f e.2)) e.1 (f e.2)) = _
      rw [putM_map]
      exact ih _
  exact gen m []
theorem putM_len {κ α : Type} [DecidableEq κ] (m : List (κ × α)) (k : κ) (a : α) : (putM m k a).length ≤ m.length + 1 := by
  unfold putM
  split
  · rw [List.length_map]; omega
  · rw [List.length_append]; simp
def cf (m : PT) (k : List Int) : Int := (getM m k).getD 0
def putA (m : PT) (k : List Int) (c : Int) : PT := putM m k (cf m k + c)
def sumP (A B : PT) (s : Int) : PT := B.foldl (fun m t => putA m t.1 (s * t.2)) (foldM A)
def add4 (a b : List Int) : List Int := [a.getD 0 0 + b.getD 0 0, a.getD 1 0 + b.getD 1 0, a.getD 2 0 + b.getD 2 0, a.getD 3 0 + b.getD 3 0]
def mulRow (a : List Int × Int) (B : PT) (m : PT) : PT := B.foldl (fun m b => putA m (add4 a.1 b.1) (a.2 * b.2)) m
def mulP (A B : PT) : PT := A.foldl (fun m a => mulRow a B m) []
def canonF (m : PT) (k : List Int) : Option (List Int × Int) := if cf m k = 0 then none else some (k, cf m k)
def canon (m : PT) : PT := ((m.map (·.1)).mergeSort keyLe).filterMap (canonF m)
/-- without the noughts, in the order as it stands -/
def nzF (m : PT) (k : List Int) : Option (List Int × Int) := canonF m k
def nz (m : PT) : PT := (m.map (·.1)).filterMap (canonF m)
theorem foldl_len {α : Type} (L : List α) (f : PT → α → PT) (h : ∀ m x, (f m x).length ≤ m.length + 1) : ∀ m, (L.foldl f m).length ≤ m.length + L.length := by
  induction L with
  | nil => intro m; exact Nat.le_refl _
  | cons x L ih =>
    intro m
    have a := ih (f m x)
    have b := h m x
    show (L.foldl f (f m x)).length ≤ _
    rw [List.length_cons]
    omega
theorem foldM_len (A : PT) : (foldM A).length ≤ A.length := by
  have a := foldl_len A (fun (acc : PT) e => putM acc e.1 e.2) (fun m x => putM_len m x.1 x.2) []
  have b : (foldM A).length ≤ ([] : PT).length + A.length := a
  rw [List.length_nil, Nat.zero_add] at b
  exact b
theorem sumP_len (A B : PT) (s : Int) : (sumP A B s).length ≤ A.length + B.length := by
  have a := foldl_len B (fun m t => putA m t.1 (s * t.2)) (fun m x => putM_len m x.1 _) (foldM A)
  have b := foldM_len A
  unfold sumP
  omega
end BX
set_option Elab.async false
set_option linter.all false
set_option maxRecDepth 100000
set_option maxHeartbeats 1000000
/-! BXp: the rules with the text, the world and the written part said. -/
namespace BX
open PySem PySem.Spec PyProof.Rows L2
def rLenS (K : PySem.W.Frag) : List V → Hp → VK → Prop := fun xs H Q => ∃ p ys, xs = [.ref p] ∧ (SqL K H p ys ∨ SqT K H p ys) ∧ Q (.int ys.length) H
def rTupOf (K : PySem.W.Frag) : List V → Hp → VK → Prop := fun xs H Q => ∃ p ys, xs = [.ref p] ∧ ((SqL K H p ys ∧ ∀ l, H l = none → Q (.ref l) (upd H l (.tup ys))) ∨ (SqT K H p ys ∧ Q (.ref p) H))
def rListOf (K : PySem.W.Frag) : List V → Hp → VK → Prop := fun xs H Q => ∃ p ys, xs = [.ref p] ∧ (SqL K H p ys ∨ SqT K H p ys) ∧ ∀ l, H l = none → Q (.ref l) (upd H l (.lst ys))
def rAbs : List V → Hp → VK → Prop := fun xs H Q => ∃ i, xs = [.int i] ∧ Q (.int (if i < 0 then -i else i)) H
def rInt1 : List V → Hp → VK → Prop := fun xs H Q => (∃ i, xs = [.int i] ∧ Q (.int i) H) ∨ ∃ b, xs = [.bl b] ∧ Q (.int (if b then 1 else 0)) H
def rMx2 : List V → Hp → VK → Prop := fun xs H Q => ∃ i j, xs = [.int i, .int j] ∧ Q (.int (if j > i then j else i)) H
section
variable {X : Cx} {P : Program} {w : World} {K : PySem.W.Frag}
theorem k_len (hK : X.K = K) : CallR X (.builtin "len") (rLenS K) := by subst hK; exact call_len_seq
theorem k_tupleOf (hK : X.K = K) : CallR X (.type "tuple") (rTupOf K) := by subst hK; exact call_tuple_of
theorem k_listOf (hK : X.K = K) : CallR X (.type "list") (rListOf K) := by subst hK; exact call_list_of
theorem k_abs : CallR X (.builtin "abs") rAbs := call_abs
theorem k_int1 : CallR X (.type "int") rInt1 := call_int1
theorem k_max2 (hc : X.calm = true) : CallR X (.builtin "max") rMx2 := call_max2 hc
theorem k_max (hK : X.K = K) (hc : X.calm = true) : CallR X (.builtin "max") (rMax K) := by subst hK; exact cr_max hc
theorem k_maxT (hK : X.K = K) (hc : X.calm = true) : CallR X (.builtin "max") (rMaxT K) := by subst hK; exact cr_maxT hc
theorem k_all (hK : X.K = K) (hc : X.calm = true) : CallR X (.builtin "all") (rAll K) := by subst hK; exact cr_all hc
theorem k_any (hK : X.K = K) (hc : X.calm = true) : CallR X (.builtin "any") (rAny K) := by subst hK; exact cr_any hc
theorem k_sum (hK : X.K = K) (hc : X.calm = true) : CallR X (.builtin "sum") (rSum K) := by subst hK; exact cr_sum hc
theorem k_xlen (hP : X.prog = P) (hw : X.w = w) (hK : X.K = K) : CallR X (.builtin "len") (rXLen P w K) := by subst hP hw hK; exact cr_xlen
theorem k_xsorted (hP : X.prog = P) (hw : X.w = w) (hK : X.K = K) (hc : X.calm = true) (hu : X.A.units + 64 < cLine) : CallR X (.builtin "sorted") (rXSorted P w K) := by subst hP hw hK; exact cr_xsorted hc hu
theorem k_xitems (hP : X.prog = P) (hw : X.w = w) (hc : X.calm = true) : CallR X (.type "list") (rXItemsList P w) := by subst hP hw; exact cr_xitems hc
theorem k_xpairs (hP : X.prog = P) (hw : X.w = w) (hK : X.K = K) (hc : X.calm = true) (hu : X.A.units + 64 < cLine) : CallR X (.type "dict") (rXPairs P w K) := by subst hP hw hK; exact cr_xpairs hc hu
theorem k_isi (hP : X.prog = P) (hw : X.w = w) (hK : X.K = K) : CallR X (.builtin "isinstance") (rIsiB P w K) := by subst hP hw hK; exact call_isiB
theorem k_xeq (hP : X.prog = P) (hw : X.w = w) (hK : X.K = K) (hu : X.A.units + 64 < cLine) : OpR X (compareOp .Eq) (rXEq P w K) := by subst hP hw hK; exact op_xeq hu
theorem k_eqT (hK : X.K = K) {n : Nat} {rs : List Rel} (h : ∀ r ∈ rs, EqR X n r) (hr : Room (n + 1) X.A) : OpR X (compareOp .Eq) (rEqT K rs) := by subst hK; exact op_eqT h hr
theorem k_neT (hK : X.K = K) {n : Nat} {rs : List Rel} (h : ∀ r ∈ rs, EqR X n r) (hr : Room (n + 1) X.A) : OpR X (compareOp .NotEq) (rNeT K rs) := by subst hK; exact op_neT h hr
theorem k_catT (hK : X.K = K) : OpR X (binaryOp .Add) (rCatA K) := by subst hK; exact op_catA
theorem k_ltT (hK : X.K = K) (hu : X.A.units < cLine) : OpR X (compareOp .Lt) (rLtT K) := by subst hK; exact op_ltT hu
theorem k_ixT (hK : X.K = K) : IxR X (rIxT K) := by subst hK; exact ix_tup
theorem k_ixL (hK : X.K = K) : IxR X (rIxL K) := by subst hK; exact ix_list
theorem k_slT (hK : X.K = K) : SlR X (rSlA K) := by subst hK; exact sl_tupA
theorem k_slL (hK : X.K = K) : SlR X (rSlL K) := by subst hK; exact sl_list
variable {o i e f value tg iter kx vx : Expr} {pos pos' apos cpos p2 : Pos} {td ty tz tv te ta : TE} {tA : TA}
theorem q_fld {f : Str} (hK : X.K = K) (he : PE X e te) (hb : attributeBase e f X.env (eval e X.env) = eval e X.env) : PE X (.Attribute e f pos) (tFld K te f) := by subst hK; exact pe_fld he hb
theorem q_new (hP : X.prog = P) (hw : X.w = w) : PE X (.Dict [] [] pos) (tXNew P w) := by subst hP hw; exact pe_xnew
theorem q_get (hP : X.prog = P) (hw : X.w = w) (hK : X.K = K) (hu : X.A.units + 1 < cLine) (ho : PE X o td) (hi : PE X i ty) (hs : NoSl i) : PE X (.Subscript o i pos) (tXGet P w K td ty) := by subst hP hw hK; exact pe_xget hu ho hi hs
theorem q_in (hP : X.prog = P) (hw : X.w = w) (hK : X.K = K) (hu : X.A.units + 1 < cLine) (hi : PE X i ty) (ho : PE X o td) : PC X .In i o (tXIn P w K ty td) := by subst hP hw hK; exact pc_xin hu hi ho
theorem q_notin (hP : X.prog = P) (hw : X.w = w) (hK : X.K = K) (hu : X.A.units + 1 < cLine) (hi : PE X i ty) (ho : PE X o td) : PC X .NotIn i o (tXNotIn P w K ty td) := by subst hP hw hK; exact pc_xnotin hu hi ho
theorem q_put (hP : X.prog = P) (hw : X.w = w) (hK : X.K = K) (hu : X.A.units + 1 < cLine) (ho : PE X o td) (hi : PE X i ty) (hv : PE X value tv) (hs : swapsWith value (some (.Subscript o i pos')) pos.line X.env = pure false) :
    PS X (.Assign [.Subscript o i pos'] value pos) (sXPut P w K td ty tv) := by subst hP hw hK; exact ps_xput hu ho hi hv hs
theorem q_get2 (hP : X.prog = P) (hw : X.w = w) (hK : X.K = K) (hu : X.A.units + 1 < cLine) (ho : PE X o td) (he : PE X e ty) (hf : PE X f tz) (m : M2 X o "get" apos e f cpos) : PE X (.Call (.Attribute o "get" apos) [e, f] [] cpos) (tXGet2 P w K td ty tz) := by subst hP hw hK; exact pe_xget2 hu ho he hf m
theorem q_items (hP : X.prog = P) (hw : X.w = w) (hK : X.K = K) (ho : PE X o td)
    (hbase : attributeBase o "items" X.env (eval o X.env) = eval o X.env := by rfl) (hline : (apos.endLine == cpos.line) = true := by rfl) : PE X (.Call (.Attribute o "items" apos) [] [] cpos) (tXItems P w K td) := by subst hP hw hK; exact pe_xitems ho hbase hline
theorem q_disp {keys : List (Option Expr)} {values : List Expr} {trs : List (TE × TE)} (hP : X.prog = P) (hw : X.w = w) (hK : X.K = K) (hu : X.A.units + 64 < cLine) (h : PPs X pos keys values trs) (hall : keys.all (·.isSome) = true) (hl : keys.length = values.length) (h0 : keys ≠ [])
    (h15 : keys.length ≤ 15) : PE X (.Dict keys values pos) (tXDisp P w K trs) := by subst hP hw hK; exact pe_xdisp hu h hall hl h0 h15
theorem q_list (hK : X.K = K) (hl : PE X e te) : PI X tg e (iList K te) := by subst hK; exact pi_list hl
theorem q_tup (hK : X.K = K) (hl : PE X e te) : PI X tg e (iTup K te) := by subst hK; exact pi_tup hl
theorem q_keys (hP : X.prog = P) (hw : X.w = w) (he : PE X e te) : PI X tg e (iXKeys P w te) := by subst hP hw; exact pi_xkeys he
theorem q_enum {p tpos : Pos} {elts : List Expr} {kk : Nat} (hK : X.K = K) (hg : Gl X "enumerate") (hm : X.mg "enumerate" = none) (ha : PA X [e] tA) (hs : starEach [e] X.env = [(false, eval e X.env)] := by rfl) :
    PI X (.Tuple elts kk tpos) (.Call (.Name "enumerate" p) [e] [] pos) (iEnum K tA) := by subst hK; exact pi_enum hg hm ha hs
theorem q_enumT {p tpos : Pos} {elts : List Expr} {kk : Nat} (hK : X.K = K) (hg : Gl X "enumerate") (hm : X.mg "enumerate" = none) (ha : PA X [e] tA) (hs : starEach [e] X.env = [(false, eval e X.env)] := by rfl) :
    PI X (.Tuple elts kk tpos) (.Call (.Name "enumerate" p) [e] [] pos) (iEnumT K tA) := by subst hK; exact pi_enumT hg hm ha hs
theorem q_gtup {es : List Expr} {k : Nat} {t : TGs} {n : Nat} (hK : X.K = K) (hc : X.calm = true) (h : PGs X es t)
    (hn : (assignEach es X.env).length = n := by rfl) (hst : (assignEach es X.env).findIdx? (·.1) = none := by rfl) : PG X (.Tuple es k pos) (gTup K n t) := by subst hK; exact pg_tup hc h hn hst
theorem q_gtupL {es : List Expr} {k : Nat} {t : TGs} {n : Nat} (hK : X.K = K) (hc : X.calm = true) (h : PGs X es t)
    (hn : (assignEach es X.env).length = n := by rfl) (hst : (assignEach es X.env).findIdx? (·.1) = none := by rfl) : PG X (.Tuple es k pos) (gTupL K n t) := by subst hK; exact pg_tupL hc h hn hst
theorem q_sfld {f : Str} (hK : X.K = K) (ha : PE X o ta) (hv : PE X value tv) (hs : swapsWith value (some (.Attribute o f pos')) pos.line X.env = pure false) : PS X (.Assign [.Attribute o f pos'] value pos) (sFld K ta tv f) := by subst hK; exact ps_fld ha hv hs
theorem q_append (hK : X.K = K) (ho : PE X o td) (ha : PA X [e] tA)
    (hbase : attributeBase o "append" X.env (eval o X.env) = eval o X.env := by rfl)
    (hfew : ((backTo cpos (starEach [e] X.env)).all (fun x => !x.1) && (backToKw cpos (keywordEach [] X.env)).all (fun x => x.1.isSome)
      && decide (([e] : List Expr).length + ([] : List Keyword).length + (if ([] : List Keyword).isEmpty then 0 else 1) < 30)) = true := by rfl)
    (hline : (apos.endLine == cpos.line) = true := by rfl) (hs : starEach [e] X.env = (false, eval e X.env) :: starEach [] X.env := by rfl) (hplain : (backTo cpos (starEach [] X.env)).any (·.1) = false := by rfl) :
    PE X (.Call (.Attribute o "append" apos) [e] [] cpos) (tBM K "list" rAppend td tA) := by subst hK; exact pe_bm PySem.F.plainAttrs_list PySem.F.slot_list_append PySem.F.type_list_append mt_append ho ha hbase hfew hline hs hplain
theorem q_dc {ifs : List Expr} {scope : Scope} {own : List (Str × Nat)} {wi : TI} {g : TG} {tt : TT} {tk tv : TE} (hP : X.prog = P) (hw : X.w = w) (hK : X.K = K) (hu : X.A.units + 64 < cLine) (hc : X.calm = true) (hN : X.N.Nodup) (hi : PI X tg iter wi) (ok : BlkOk X.N X.env.scope scope own)
    (hg : ∀ (s : Shared) (H : Hp) (C : Addr) (cl : List (Str × Addr)) (fp : List Addr), PG (X.blk s H scope (compEnvC scope cl C X.env) fp) tg g) (ht : ∀ (s : Shared) (H : Hp) (C : Addr) (cl : List (Str × Addr)) (fp : List Addr), PTs (X.blk s H scope (compEnvC scope cl C X.env) fp) ifs tt)
    (hk : ∀ (s : Shared) (H : Hp) (C : Addr) (cl : List (Str × Addr)) (fp : List Addr), PE (X.blk s H scope (compEnvC scope cl C X.env) fp) kx tk)
    (he : ∀ (s : Shared) (H : Hp) (C : Addr) (cl : List (Str × Addr)) (fp : List Addr), PE (X.blk s H scope (compEnvC scope cl C X.env) fp) vx tv) (hs : ∀ x, foldedSetIterable iter X.env x = pure x := by intro _; rfl) :
    PE X (.DictComp kx vx [⟨tg, iter, ifs, 0⟩] scope pos) (tXDc P w K wi g tt tk tv (own.map (·.2))) := by subst hP hw hK; exact pe_xdc hu hc hN hi ok hg ht hk he hs
theorem q_setDc {i : Nat} {y : Str} {py spos : Pos} {ifs : List Expr} {scope : Scope} {own : List (Str × Nat)} {wi : TI} {g : TG} {tt : TT} {tk tv : TE} (hP : X.prog = P) (hw : X.w = w) (hK : X.K = K) (hu : X.A.units + 64 < cLine) (hc : X.calm = true) (hN : X.N.Nodup) (hy : X.N[i]? = some y) (hyl : X.env.scope.names.lookup y = some .local)
    (hsw : swapsWith (.DictComp kx vx [⟨tg, iter, ifs, 0⟩] scope pos) (some (.Name y py)) spos.line X.env = pure true) (hi : PI X tg iter wi) (ok : BlkOk X.N X.env.scope scope own)
    (hg : ∀ (s : Shared) (H : Hp) (C : Addr) (cl : List (Str × Addr)) (fp : List Addr), PG (X.blk s H scope (compEnvC scope cl C X.env) fp) tg g) (ht : ∀ (s : Shared) (H : Hp) (C : Addr) (cl : List (Str × Addr)) (fp : List Addr), PTs (X.blk s H scope (compEnvC scope cl C X.env) fp) ifs tt)
    (hk : ∀ (s : Shared) (H : Hp) (C : Addr) (cl : List (Str × Addr)) (fp : List Addr), PE (X.blk s H scope (compEnvC scope cl C X.env) fp) kx tk)
    (he : ∀ (s : Shared) (H : Hp) (C : Addr) (cl : List (Str × Addr)) (fp : List Addr), PE (X.blk s H scope (compEnvC scope cl C X.env) fp) vx tv) (hs : ∀ x, foldedSetIterable iter X.env x = pure x := by intro _; rfl) :
    PS X (.Assign [.Name y py] (.DictComp kx vx [⟨tg, iter, ifs, 0⟩] scope pos) spos) (tAsg (tXDc P w K wi g tt tk tv (own.map (·.2))) (gName i)) := by subst hP hw hK; exact ps_setXDc hu hc hN hy hyl hsw hi ok hg ht hk he hs
end
end BX
set_option Elab.async false
set_option linter.all false
set_option maxRecDepth 100000
set_option maxHeartbeats 1000000
/-! BXm: a tactic that takes one step of a reading, by the head of its word. -/
namespace BX
open PySem PySem.Spec PyProof.Rows L2
section
variable {B : Bd} {Γ : Ctx} {te : TE} {D : Ends} {k : Rel → Prop} {tz : TS}
theorem ws_retS (hD : RtK B k D) (h : WpE B Γ te k) : WpS B D Γ (tSeq (tRet te) tz) := fun σ H E => h σ H E _ fun r v H' q p e => hD r v H' q p (Same.trans E.ex e)
theorem RtK.nx {n : L2.St → Hp → Prop} (hD : RtK B k D) : RtK B k { D with nx := n } := hD
/-- a way that is not taken -/
theorem we_never (h : False) : WpE B Γ te k := h.elim
theorem ws_never (h : False) : WpS B D Γ tz := h.elim
end
end BX
set_option Elab.async false
set_option linter.all false
set_option maxRecDepth 100000
set_option maxHeartbeats 1000000
/-! BXq: a list of dicts that are changed. -/
namespace BX
open PySem PySem.Spec PyProof.Rows L2

/-- the slot f holds a new list of new dicts -/
def MX (B : Bd) (f : Nat) (kss : List (List (List Int × Rel))) (σ : L2.St) (H : Hp) : Prop := ∃ l as, σ[f]? = some (some (.ref l)) ∧ B.H0 l = none ∧ H l = some (.lst (as.map V.ref)) ∧ (l :: as).Nodup ∧
  Paired (fun a ks => B.H0 a = none ∧ ∃ es, H a = some (DXO B.P B.w a es) ∧ AlX B.K H ks es) as kss
theorem MX.mono {B : Bd} {f : Nat} {kss : List (List (List Int × Rel))} {σ σ' : L2.St} {H H' : Hp} (h : MX B f kss σ H) (e : Same H H') (hs : σ'[f]? = σ[f]?) : MX B f kss σ' H' := by
  obtain ⟨l, as, h1, h2, h3, h4, h5⟩ := h
  exact ⟨l, as, by rw [hs]; exact h1, h2, e _ _ h3, h4, Paired.mapP h5 fun a ks ⟨n, es, ha, hal⟩ => ⟨n, es, e _ _ ha, hal.st (Same.im e)⟩⟩
theorem MX.more {B : Bd} {f : Nat} {kss : List (List (List Int × Rel))} {σ : L2.St} {H : Hp} {G st} (h : MX B f kss σ H) : MX (B.more G st) f kss σ H := h
/-- no slot holds what may change -/
def NoM (Γ : Ctx) : Prop := ∀ (i : Nat) t, Γ[i]? = some t → t.mut = false
/-- a new thing's change leaves such slots -/
theorem Env.chgN {B : Bd} {Γ : Ctx} {σ : L2.St} {H : Hp} (E : Env B Γ σ H) (hn : NoM Γ) {a : Addr} {o o' : HO} (ha : H a = some o) (hc : Chg o) (h0 : B.H0 a = none) : Env B Γ σ (upd H a o') := by
  refine ⟨E.len, Same.put E.ex h0, B.fs _ _ (Im.upd ha hc) E.fx, fun i t e => ?_, E.dis⟩
  obtain ⟨ov, h1, h2⟩ := E.ty i t e
  refine ⟨ov, h1, ?_⟩
  cases t with
  | no => trivial
  | im r => obtain ⟨v, c1, c2⟩ := h2; exact ⟨v, c1, r.st (Im.upd ha hc) c2⟩
  | ml rs => exact nomatch (hn i _ e)
  | mx ks => exact nomatch (hn i _ e)
section
variable {B : Bd} {Γ : Ctx} {D : Ends}
/-- [{} for _ in ..] -/
theorem ws_mkX {wi : TI} {j f : Nat} {tz : TS} (h : WpI B Γ wi fun n rs => n ≤ sizeLine ∧ f < Γ.length ∧ ∀ σ H, Env B (Γ.set f .no) σ H → MX B f (List.replicate n []) σ H → tz D σ H) :
    WpS B D Γ (tSeq (tAsg (tLc wi (gName j) tYes (tXNew B.P B.w) [j]) (gName f)) tz) := fun σ H E => by
  show tLc wi (gName j) tYes (tXNew B.P B.w) [j] σ H fun x H1 => gName f x σ H1 (tz D)
  refine h σ H E _ fun J n rs G Y H1 ⟨hz, hf, hk⟩ e w hG im hY => ?_
  intro Dl hD
  have h0n : B.H0 Dl = none := Same.free (Same.trans E.ex e) hD
  have old : Env B Γ σ H1 := E.mono e
  refine lc_it (Qd := fun H => gName f (.ref Dl) σ H (tz D)) w (fun i H2 => ∃ as, as.length = i ∧ H2 Dl = some (.lst (as.map V.ref)) ∧ (Dl :: as).Nodup ∧ (∀ a ∈ as, H1 a = none ∧ H2 a = some (DXO B.P B.w a [])) ∧ G H2 ∧ Same H1 H2) ?_ (fun i H2 _ ⟨_, _, _, _, _, g, _⟩ => g) ?_ ?_
  · exact ⟨[], rfl, upd_same, by simp, fun _ h => (by cases h), im _ _ (Same.im (Same.new hD)) hG, Same.new hD⟩
  · rintro i x H2 H3 hi ⟨as, hl, hDl, nd, ha, g, s1⟩ y
    obtain ⟨e1, px⟩ := hY i H2 x H3 hi g y
    refine ⟨?_, ?_⟩
    · show L2.wipe ((L2.wipe σ [j]).set j (some x)) [j] = L2.wipe σ [j]
      exact (wipe_of (by simp) fun k hk => List.getElem?_set_ne (fun z => hk (by simp [z]))).trans (wipe_of (wipe_length σ [j]) fun k hk => wipe_out hk)
    · simp only [tYes, if_true]
      intro p hp
      have e3 : Same H2 (upd H3 p (DXO B.P B.w p [])) := Same.trans e1 (Same.new hp)
      have s3 : Same H1 (upd H3 p (DXO B.P B.w p [])) := Same.trans s1 e3
      have hl3 := e3 _ _ hDl
      have pD : p ≠ Dl := fun z => by rw [z] at hp; rw [e1 _ _ hDl] at hp; cases hp
      have p1 : H1 p = none := Same.free (Same.trans s1 e1) hp
      refine ⟨as.map V.ref, hl3, by rw [List.length_map, hl]; omega, as ++ [p], by rw [List.length_append, hl]; rfl, by rw [upd_same, List.map_append]; rfl, ?_, ?_, im _ _ (Im.trans (Same.im e3) (Im.upd hl3 lst_c)) g, Same.put s3 hD⟩
      · rw [← List.cons_append, List.nodup_append]
        refine ⟨nd, by simp, fun a ha' b hb => ?_⟩
        have hb' : b = p := by simpa using hb
        subst hb'
        intro z
        subst z
        rcases List.mem_cons.mp ha' with q | q
        · exact pD q
        · have := (ha a q).2
          rw [e1 _ _ this] at hp
          cases hp
      · intro a ha'
        rcases List.mem_append.mp ha' with q | q
        · obtain ⟨q1, q2⟩ := ha a q
          have ne : a ≠ Dl := fun z => by rw [List.nodup_cons] at nd; exact nd.1 (z ▸ q)
          exact ⟨q1, by rw [upd_ne ne]; exact e3 _ _ q2⟩
        · have q' : a = p := by simpa using q
          subst q'
          exact ⟨p1, by rw [upd_ne pD]; exact upd_same⟩
  · rintro H2 ⟨as, hl, hDl, nd, ha, g, s1⟩
    show tz D (σ.set f (some (.ref Dl))) H2
    have E2 : Env B Γ σ H2 := old.mono s1
    refine hk _ H2 ⟨by rw [List.length_set, List.length_set]; exact E2.len, E2.ex, E2.fx, fun i t e => ?_, fun i k t u l hik e1 e2 m1 m2 q1 q2 => ?_⟩ ⟨Dl, as, List.getElem?_set_self (by rw [E.len]; exact hf), h0n, hDl, nd, ?_⟩
    · by_cases hi : f = i
      · subst hi
        obtain ⟨_, rfl⟩ := set_at e
        exact ⟨some (.ref Dl), List.getElem?_set_self (by rw [E.len]; exact hf), trivial⟩
      · rw [List.getElem?_set_ne hi] at e ⊢
        exact E2.ty i t e
    · have n1 : f ≠ i := fun z => by subst z; obtain ⟨_, rfl⟩ := set_at e1; cases m1
      have n2 : f ≠ k := fun z => by subst z; obtain ⟨_, rfl⟩ := set_at e2; cases m2
      rw [List.getElem?_set_ne n1] at e1 q1
      rw [List.getElem?_set_ne n2] at e2 q2
      exact E2.dis i k t u l hik e1 e2 m1 m2 q1 q2
    · have gen : ∀ as : List Addr, (∀ a ∈ as, H1 a = none ∧ H2 a = some (DXO B.P B.w a [])) → Paired (fun a ks => B.H0 a = none ∧ ∃ es, H2 a = some (DXO B.P B.w a es) ∧ AlX B.K H2 ks es) as (List.replicate as.length []) := by
        intro as
        induction as with
        | nil => intro _; exact .nil
        | cons a as ih =>
          intro ha
          rw [List.length_cons, List.replicate_succ]
          exact .cons ⟨Same.free (Same.trans E.ex e) (ha a (List.mem_cons_self ..)).1, [], (ha a (List.mem_cons_self ..)).2, .nil⟩ (ih fun b hb => ha b (List.mem_cons_of_mem _ hb))
      have := gen as ha
      rw [hl] at this
      exact this
theorem pair_set {α β : Type} {G : α → β → Prop} : ∀ {as : List α} {bs : List β} {j : Nat} {b : β}, Paired G as bs → (∀ a, as[j]? = some a → G a b) → Paired G as (bs.set j b)
  | _, _, _, _, .nil, _ => .nil
  | _, _, 0, _, .cons h t, g => .cons (g _ rfl) t
  | _, _, j + 1, _, .cons h t, g => .cons h (pair_set t fun a e => g a (by simpa using e))
/-- found[e][k] = v -/
theorem sx_put {f : Nat} {kss : List (List (List Int × Rel))} {te ty tv : TE} {σ : L2.St} {H : Hp} (hn : NoM Γ) (E : Env B Γ σ H) (M : MX B f kss σ H)
    (h : WpE B Γ tv fun rv => WpE B Γ te fun re => ∃ j : Nat, re = rInt (j : Int) ∧ j < kss.length ∧ WpE B Γ ty fun rk => ∃ kk, rk = rKey B.K kk ∧ (kss.getD j []).length < sizeLine ∧
      ∀ H', Env B Γ σ H' → MX B f (kss.set j (putM (kss.getD j []) kk rv)) σ H' → D.nx σ H') : sXPut B.P B.w B.K (tOp (rIxL B.K) (tVar f) te) ty tv D σ H :=
  h σ H E _ fun rv v H1 h1 pv e1 => by
    obtain ⟨l, as, m1, m2, m3, m4, m5⟩ := M.mono e1 rfl
    refine ⟨_, m1, h1 σ H1 (E.mono e1) _ fun re x H2 ⟨j, er, hj, h2⟩ px e2 => ?_⟩
    subst er
    cases px
    have hja : j < as.length := by rw [Paired.length m5]; exact hj
    refine ⟨l, as.map V.ref, j, .ref as[j], rfl, rfl, .inl (.inl (e2 _ _ m3)), atI_nat (by rw [List.getElem?_map, List.getElem?_eq_getElem hja]; rfl), ?_⟩
    refine h2 σ H2 (E.mono (Same.trans e1 e2)) _ fun rk y H3 ⟨kk, ek, hz, hq⟩ py e3 => ?_
    subst ek
    have e13 := Same.trans e1 (Same.trans e2 e3)
    obtain ⟨b, rfl, hb⟩ := rKey_at py
    have hks : kss[j]? = some (kss.getD j []) := by rw [List.getD_eq_getElem?_getD, List.getElem?_eq_getElem hj]; rfl
    obtain ⟨ks, hks', n0, es, ha, hal⟩ := pget2 m5 (List.getElem?_eq_getElem hja)
    rw [hks] at hks'
    cases hks'
    have ha3 : H3 as[j] = some (DXO B.P B.w as[j] es) := e3 _ _ (e2 _ _ ha)
    have hal3 := hal.st (Same.im (Same.trans e2 e3))
    refine ⟨as[j], es, b, ik kk, rfl, ha3, hal3.keys, rfl, hb, by rw [hal.length]; exact hz, ?_⟩
    have E3 := E.mono e13
    have im3 : Im H3 (upd H3 as[j] (DXO B.P B.w as[j] (putE es (ik kk) b v))) := Im.upd ha3 dx_c
    refine hq _ (E3.chgN hn ha3 dx_c n0) ⟨l, as, m1, m2, ?_, m4, ?_⟩
    · rw [upd_ne (fun z => by rw [List.nodup_cons] at m4; exact m4.1 (z ▸ List.getElem_mem hja))]
      exact e3 _ _ (e2 _ _ m3)
    · have nd : as.Nodup := (List.nodup_cons.mp m4).2
      have base : Paired (fun a ks => B.H0 a = none ∧ ∃ es, H3 a = some (DXO B.P B.w a es) ∧ AlX B.K H3 ks es) as kss := Paired.mapP m5 fun a ks ⟨n, es, ha, hal⟩ => ⟨n, es, e3 _ _ (e2 _ _ ha), hal.st (Same.im (Same.trans e2 e3))⟩
      have gen : ∀ (as' : List Addr) (kss' : List (List (List Int × Rel))) (i : Nat), as'.Nodup → as'[i]? = some as[j] → kss'[i]? = some (kss.getD j []) → Paired (fun a ks => B.H0 a = none ∧ ∃ es, H3 a = some (DXO B.P B.w a es) ∧ AlX B.K H3 ks es) as' kss' →
          Paired (fun a ks => B.H0 a = none ∧ ∃ es', upd H3 as[j] (DXO B.P B.w as[j] (putE es (ik kk) b v)) a = some (DXO B.P B.w a es') ∧ AlX B.K (upd H3 as[j] (DXO B.P B.w as[j] (putE es (ik kk) b v))) ks es') as' (kss'.set i (putM (kss.getD j []) kk rv)) := by
        intro as' kss' i nd' h1' h2' p
        induction p generalizing i with
        | nil => simp at h1'
        | @cons a ks as'' kss'' hh t ih =>
          rw [List.nodup_cons] at nd'
          cases i with
          | zero =>
            simp at h1' h2'
            subst h1'
            refine .cons ⟨hh.1, _, upd_same, AlX.st im3 (hal3.put hb (Rel.st _ (Same.im (Same.trans e2 e3)) pv))⟩ ?_
            have off : ∀ a' ∈ as'', a' ≠ as[j] := fun a' ha' z => nd'.1 (z ▸ ha')
            clear ih nd'
            induction t with
            | nil => exact .nil
            | @cons a' ks' l1 l2 hh' t' ih' =>
              obtain ⟨n', es', q1, q2⟩ := hh'
              exact .cons ⟨n', es', by rw [upd_ne (off a' (List.mem_cons_self ..))]; exact q1, q2.st im3⟩ (ih' fun b hb => off b (List.mem_cons_of_mem _ hb))
          | succ i =>
            have h1'' : as''[i]? = some as[j] := by simpa using h1'
            obtain ⟨n', es', q1, q2⟩ := hh
            have ne : a ≠ as[j] := fun z => nd'.1 (z ▸ List.mem_of_getElem? h1'')
            exact .cons ⟨n', es', by rw [upd_ne ne]; exact q1, q2.st im3⟩ (ih i nd'.2 h1'' (by simpa using h2'))
      exact gen as kss j nd (List.getElem?_eq_getElem hja) hks base
/-- a loop, with more than the slots kept -/
theorem ws_forM {α S : Type} (L : List α) {g : α → Rel} (s0 : S) (step : S → α → S) (Γs : S → Ctx) (M : S → L2.St → Hp → Prop) (js : List Nat) (hM : ∀ s σ H σ' H', M s σ H → Same H H' → (∀ i, i ∉ js → σ'[i]? = σ[i]?) → M s σ' H') {wi : TI} {g' : TG} {tb tz : TS} {σ0 : L2.St} {H0 : Hp}
    (E0 : Env B Γ σ0 H0) (m0 : M s0 σ0 H0) (hw : WpI B Γ wi fun n rs => n = L.length ∧ (∀ i (hi : i < L.length), rs i = g L[i]) ∧ Weak Γ (Γs s0) ∧
      (∀ i (hi : i < L.length), ∀ G st, ∃ Γ2, WpG (B.more G st) (Γs ((L.take i).foldl step s0)) g' (g L[i]) js Γ2 ∧
        ∀ σ H, Env (B.more G st) Γ2 σ H → M ((L.take i).foldl step s0) σ H → tb { D with nx := fun σ H => Env (B.more G st) (Γs (step ((L.take i).foldl step s0) L[i])) σ H ∧ M (step ((L.take i).foldl step s0) L[i]) σ H, ct := fun σ H => Env (B.more G st) (Γs (step ((L.take i).foldl step s0) L[i])) σ H ∧ M (step ((L.take i).foldl step s0) L[i]) σ H, bk := tz D } σ H) ∧
      ∀ σ H, Env B (Γs (L.foldl step s0)) σ H → M (L.foldl step s0) σ H → tz D σ H) : tSeq (tFor wi g' tb) tz D σ0 H0 := by
  refine hw σ0 H0 E0 _ fun J n rs G Y H1 ⟨hn, hr, hwk, hs, hz⟩ e w hG im hY => ?_
  subst hn
  refine for_it w (fun i σ H => Env (B.more G im) (Γs ((L.take i).foldl step s0)) σ H ∧ M ((L.take i).foldl step s0) σ H) ⟨((E0.mono e).wk hwk).more hG, hM _ _ _ _ _ m0 e fun _ _ => rfl⟩ (fun i σ H _ p => p.1.fx.2) (fun i x σ' H2 H3 hi p y => ?_) fun σ' H2 p => ?_
  · obtain ⟨e1, px⟩ := hY i H2 x H3 hi p.1.fx.2 y
    rw [hr i hi] at px
    obtain ⟨Γ2, hg, hb⟩ := hs i hi G im
    refine hg σ' H3 x (p.1.mono e1) px _ fun σ2 H4 E2 e2 hj _ => ?_
    have q := hb σ2 H4 E2 (hM _ _ _ _ _ p.2 (Same.trans e1 e2) hj)
    have et : (L.take (i + 1)).foldl step s0 = step ((L.take i).foldl step s0) L[i] := by
      rw [take_succ_at hi, List.foldl_append]
      rfl
    rw [et]
    exact q
  · rw [List.take_length] at p
    exact hz σ' H2 p.1.less p.2
end
/-! ### all of them are not changed any more -/
def tFrzAll (f : Nat) (t : TS) : TS := fun D σ H => ∃ l as us, σ[f]? = some (some (V.ref l)) ∧ H l = some (.lst (as.map V.ref)) ∧ (l :: as).Nodup ∧ Paired (fun a u => H a = some u ∧ Mut (some u)) as us ∧
  ∀ H' o, (∀ b, b ∉ l :: as → H' b = H b) → H' l = some (.frz o (.lst (as.map V.ref))) → Paired (fun a u => ∃ o, H' a = some (.frz o u)) as us → t D σ H'
theorem paired_off {H H' : Hp} : ∀ {as : List Addr} {us : List HO}, (∀ b ∈ as, H' b = H b) → Paired (fun a u => H a = some u ∧ Mut (some u)) as us → Paired (fun a u => H' a = some u ∧ Mut (some u)) as us
  | _, _, _, .nil => .nil
  | _, _, g, .cons h t => .cons ⟨by rw [g _ (List.mem_cons_self ..)]; exact h.1, h.2⟩ (paired_off (fun b hb => g b (List.mem_cons_of_mem _ hb)) t)
theorem lock_all {X : Cx} {pins : List (Addr × Obj)} {σ : L2.St} {s : Shared} : ∀ {as : List Addr} {us : List HO} {H : Hp}, Inv X pins σ H s → as.Nodup → Paired (fun a u => H a = some u ∧ Mut (some u)) as us →
    ∃ H', Inv X pins σ H' s ∧ (∀ b, b ∉ as → H' b = H b) ∧ Paired (fun a u => ∃ o, H' a = some (.frz o u)) as us
  | _, _, H, I, _, .nil => ⟨H, I, fun _ _ => rfl, .nil⟩
  | a :: as, u :: us, H, I, nd, .cons h t => by
    rw [List.nodup_cons] at nd
    obtain ⟨o, I1⟩ := I.lock h.1 h.2
    have t' : Paired (fun b v => upd H a (.frz o u) b = some v ∧ Mut (some v)) as us := paired_off (fun b hb => upd_ne (fun z => nd.1 (z ▸ hb))) t
    obtain ⟨H', I2, k, p⟩ := lock_all I1 nd.2 t'
    refine ⟨H', I2, fun b hb => ?_, .cons ⟨o, ?_⟩ p⟩
    · rw [List.mem_cons, not_or] at hb
      rw [k b hb.2, upd_ne hb.1]
    · rw [k a nd.1, upd_same]
theorem pss_frzAll {X : Cx} {sts : List Stmt} {t : TS} (f : Nat) (h : PSs X sts t) : PSs X sts (tFrzAll f t) := by
  refine ⟨fun pins s σ H D I hw => ?_⟩
  obtain ⟨l, as, us, _, hl, nd, hp, q⟩ := hw
  obtain ⟨H1, I1, k1, p1⟩ := lock_all (as := l :: as) (us := .lst (as.map V.ref) :: us) I nd (.cons ⟨hl, trivial⟩ hp)
  cases p1 with
  | cons h1 t1 =>
    obtain ⟨o, h1⟩ := h1
    exact h.run pins s σ _ D I1 (q H1 o k1 h1 t1)
theorem ws_frzAll {B : Bd} {Γ : Ctx} {D : Ends} {f : Nat} {kss : List (List (List Int × Rel))} {t : TS} {σ : L2.St} {H : Hp} (hn : NoM Γ) (hf : f < Γ.length) (E : Env B Γ σ H) (M : MX B f kss σ H) (h : WpS B D (Γ.set f (.im (rLst (kss.map fun ks => rDct B.P B.w B.K ks)))) t) : tFrzAll f t D σ H := by
  obtain ⟨l, as, m1, m2, m3, m4, m5⟩ := M
  have nd := List.nodup_cons.mp m4
  have at_ : ∀ {as : List Addr} {kss : List (List (List Int × Rel))}, Paired (fun a ks => B.H0 a = none ∧ ∃ es, H a = some (DXO B.P B.w a es) ∧ AlX B.K H ks es) as kss → ∀ a ∈ as, B.H0 a = none ∧ ∃ es, H a = some (DXO B.P B.w a es) := by
    intro as kss p
    induction p with
    | nil => intro a ha; cases ha
    | cons h t ih =>
      intro a ha
      rcases List.mem_cons.mp ha with z | z
      · subst z; exact ⟨h.1, h.2.imp fun _ q => q.1⟩
      · exact ih a z
  have ha := at_ m5
  have us : Paired (fun a u => H a = some u ∧ Mut (some u)) as (as.map fun a => (H a).getD (.lst [])) := by
    have gen : ∀ as' : List Addr, (∀ a ∈ as', ∃ es, H a = some (DXO B.P B.w a es)) → Paired (fun a u => H a = some u ∧ Mut (some u)) as' (as'.map fun a => (H a).getD (.lst [])) := by
      intro as'
      induction as' with
      | nil => intro _; exact .nil
      | cons a as' ih =>
        intro g
        obtain ⟨es, e⟩ := g a (List.mem_cons_self ..)
        have e' : (H a).getD (.lst []) = DXO B.P B.w a es := by rw [e]; rfl
        exact .cons ⟨by show H a = some ((H a).getD (.lst [])); rw [e', e], by show Mut (some ((H a).getD (.lst []))); rw [e']; exact trivial⟩ (ih fun b hb => g b (List.mem_cons_of_mem _ hb))
    exact gen as fun a h => (ha a h).2
  refine ⟨l, as, _, m1, m3, m4, us, fun H' o k hl p => ?_⟩
  have pa : ∀ a ∈ as, ∃ o, H' a = some (.frz o ((H a).getD (.lst []))) := by
    have gen : ∀ as' : List Addr, Paired (fun a u => ∃ o, H' a = some (.frz o u)) as' (as'.map fun a => (H a).getD (.lst [])) → ∀ a ∈ as', ∃ o, H' a = some (.frz o ((H a).getD (.lst []))) := by
      intro as'
      induction as' with
      | nil => intro _ a h; cases h
      | cons a as' ih =>
        intro g b hb
        rw [List.map_cons] at g
        cases g with
        | cons h t =>
          rcases List.mem_cons.mp hb with z | z
          · subst z; exact h
          · exact ih t b z
    exact gen as p
  have im : Im H H' := fun b u nc e => by
    rw [k b fun hb => ?_]
    · exact e
    · rcases List.mem_cons.mp hb with z | z
      · rw [z, m3] at e; cases e; exact nc lst_c
      · obtain ⟨es, q⟩ := (ha b z).2
        rw [q] at e; cases e; exact nc dx_c
  have ex : Same B.H0 H' := fun b u e => by
    rw [k b fun hb => ?_]
    · exact E.ex b u e
    · rcases List.mem_cons.mp hb with z | z
      · rw [z, m2] at e; cases e
      · rw [(ha b z).1] at e; cases e
  refine h σ H' ⟨by rw [List.length_set]; exact E.len, ex, B.fs _ _ im E.fx, fun i t e => ?_, fun i j t u l hij e1 e2 mu1 mu2 q1 q2 => ?_⟩
  · by_cases hi : f = i
    · subst hi
      obtain ⟨_, rfl⟩ := set_at e
      refine ⟨_, m1, .ref l, rfl, l, o, as.map V.ref, rfl, hl, ?_⟩
      have gen : ∀ {as' : List Addr} {kss' : List (List (List Int × Rel))}, (∀ a ∈ as', a ∈ as) → Paired (fun a ks => B.H0 a = none ∧ ∃ es, H a = some (DXO B.P B.w a es) ∧ AlX B.K H ks es) as' kss' → Al H' (kss'.map fun ks => rDct B.P B.w B.K ks) (as'.map V.ref) := by
        intro as' kss' sub q
        induction q with
        | nil => exact .nil
        | @cons a ks l1 l2 h t ih =>
          obtain ⟨_, es, q1, q2⟩ := h
          obtain ⟨o', q3⟩ := pa a (sub a (List.mem_cons_self ..))
          rw [q1] at q3
          exact .cons ⟨a, o', es, rfl, q3, q2.st im⟩ (ih fun b hb => sub b (List.mem_cons_of_mem _ hb))
      exact gen (fun _ h => h) m5
    · rw [List.getElem?_set_ne hi] at e
      obtain ⟨ov, h1, h2⟩ := E.ty i t e
      refine ⟨ov, h1, ?_⟩
      cases t with
      | no => trivial
      | im r => obtain ⟨v, c1, c2⟩ := h2; exact ⟨v, c1, r.st im c2⟩
      | ml rs => exact nomatch (hn i _ e)
      | mx ks => exact nomatch (hn i _ e)
  · have n1 : f ≠ i := fun z => by subst z; obtain ⟨_, rfl⟩ := set_at e1; cases mu1
    rw [List.getElem?_set_ne n1] at e1
    rw [hn i _ e1] at mu1
    cases mu1
end BX
set_option Elab.async false
set_option linter.all false
set_option maxRecDepth 100000
set_option maxHeartbeats 1000000
/-! BXr: the hand of a script and its draws. -/
namespace BX
open PySem PySem.Spec PyProof.Rows L2
/-! ### the hand and its draws, as they stand in the heap -/
def hkv (c : Addr) (t g s u : Int) : List (Key × V) := [(.inr "cells", .ref c), (.inr "at", .int t), (.inr "great", .int g), (.inr "seed", .int s), (.inr "turn", .int u)]
def hH (H : Hp) (a c : Addr) (t g s u : Int) : Hp := upd H a (.dK (hkv c t g s u))
theorem hH_at (H : Hp) (a c : Addr) (t g s u : Int) : hH H a c t g s u a = some (.dK (hkv c t g s u)) := upd_same
def EvI (σ : L2.St) (H : Hp) (te : TE) (i : Int) : Prop := ∀ Q : VK, Q (.int i) H → te σ H Q
section
variable {σ : L2.St} {H : Hp} {ta tb : TE} {i j : Int}
theorem ev_c : EvI σ H (tC (.int i)) i := fun Q q => q
theorem ev_var {n : Nat} (h : σ[n]? = some (some (.int i))) : EvI σ H (tVar n) i := fun Q q => ⟨_, h, q⟩
theorem ev_op0 {g : Int → Int → Int} (ha : EvI σ H ta i) (hb : EvI σ H tb j) : EvI σ H (tOp (rI0 fun i j => .int (g i j)) ta tb) (g i j) := fun Q q => ha _ (hb _ ⟨i, j, rfl, rfl, q⟩)
theorem ev_op {C : Int → Int → Prop} {g : Int → Int → Int} (ha : EvI σ H ta i) (hb : EvI σ H tb j) (hc : C i j) : EvI σ H (tOp (rI C fun i j => .int (g i j)) ta tb) (g i j) := fun Q q => ha _ (hb _ ⟨i, j, rfl, rfl, hc, q⟩)
theorem ev_int (ha : EvI σ H ta i) : EvI σ H (tCB rInt1 (tCons ta tNil)) i := fun Q q => ha _ (.inl ⟨i, rfl, q⟩)
theorem ev_get {a : Addr} {kvs : List (Key × V)} {k : Str} (h0 : σ[0]? = some (some (.ref a))) (hH : H a = some (.dK kvs)) (hv : valV kvs (.inr k) = some (.int i)) : EvI σ H (tDGet (tVar 0) (tC (.str k))) i := fun Q q =>
  ⟨_, h0, a, .int i, rfl, by have := DGet.k (k := .inr k) hH; rw [hv] at this; exact this, q⟩
theorem st_asg {D : Ends} {n : Nat} (h : EvI σ H ta i) (q : D.nx (σ.set n (some (.int i))) H) : tAsg ta (gName n) D σ H := h _ q
theorem st_put {D : Ends} {a : Addr} {kvs : List (Key × V)} {k : Str} (h : EvI σ H ta i) (h0 : σ[0]? = some (some (.ref a))) (hH : H a = some (.dK kvs)) (hl : kvs.length < sizeLine) (q : D.nx σ (upd H a (.dK (putK kvs (.inr k) (.int i))))) : sDPut (tVar 0) (tC (.str k)) ta D σ H :=
  h _ ⟨_, h0, a, _, rfl, DPut.k (k := .inr k) hH hl, q⟩
theorem st_ret {D : Ends} (h : EvI σ H ta i) (q : D.rt (.int i) H) : tRet ta D σ H := h _ q
theorem tt_op0 {g : Int → Int → Bool} {Q : Bool → Hp → Prop} (ha : EvI σ H ta i) (hb : EvI σ H tb j) (q : Q (g i j) H) : tTest (tOp (rI0 fun i j => .bl (g i j)) ta tb) σ H Q := ha _ (hb _ ⟨i, j, rfl, rfl, _, rfl, q⟩)
theorem tt_eq {Q : Bool → Hp → Prop} (ha : EvI σ H ta i) (hb : EvI σ H tb j) (q : Q (decide (V.int i = V.int j)) H) : tTest (tOp rEq ta tb) σ H Q := ha _ (hb _ ⟨rfl, _, rfl, q⟩)
end
theorem cmulR {i j : Int} (h1 : -(2 ^ 64) < j) (h2 : j < 2 ^ 64) : CMul i j := .inr ⟨h1, h2⟩
theorem cmulL {i j : Int} (h1 : -(2 ^ 64) < i) (h2 : i < 2 ^ 64) : CMul i j := .inl ⟨h1, h2⟩
/-- what a draw is asked and does -/
def spDraw0 (K : PySem.W.Frag) : Sp := fun vs H Q E => ∃ (a c : Addr) (ns : List Int) (many t g s u : Int) (H0 : Hp), vs = [.ref a, .int many] ∧ H = hH H0 a c t g s u ∧ (∀ t g s u, SqL K (hH H0 a c t g s u) c (ns.map V.int)) ∧
  0 < many ∧ many < 1073741824 ∧ 0 ≤ t ∧ ∀ d t' g' s' u' : Int, 0 ≤ d → d < many → 0 ≤ t' → Q (.int d) (hH H0 a c t' g' s' u')
theorem hH_put (H0 : Hp) (a c : Addr) (t g s u t' g' s' u' : Int) : upd (hH H0 a c t g s u) a (.dK (hkv c t' g' s' u')) = hH H0 a c t' g' s' u' := upd_upd
theorem putAt {c : Addr} {t g s u i : Int} : putK (hkv c t g s u) (.inr "at") (.int i) = hkv c i g s u := rfl
theorem putGr {c : Addr} {t g s u i : Int} : putK (hkv c t g s u) (.inr "great") (.int i) = hkv c t i s u := rfl
theorem putSe {c : Addr} {t g s u i : Int} : putK (hkv c t g s u) (.inr "seed") (.int i) = hkv c t g i u := rfl
theorem putTu {c : Addr} {t g s u i : Int} : putK (hkv c t g s u) (.inr "turn") (.int i) = hkv c t g s i := rfl
section
variable {σ : L2.St} {H0 : Hp} {te : TE} {D : Ends} {a c : Addr} {t g s u i : Int}
theorem st_at (h : EvI σ (hH H0 a c t g s u) te i) (h0 : σ[0]? = some (some (.ref a))) (q : D.nx σ (hH H0 a c i g s u)) : sDPut (tVar 0) (tC (.str "at")) te D σ (hH H0 a c t g s u) := st_put h h0 (hH_at ..) (Nat.le_of_ble_eq_true rfl) (by rw [putAt, hH_put]; exact q)
theorem st_gr (h : EvI σ (hH H0 a c t g s u) te i) (h0 : σ[0]? = some (some (.ref a))) (q : D.nx σ (hH H0 a c t i s u)) : sDPut (tVar 0) (tC (.str "great")) te D σ (hH H0 a c t g s u) := st_put h h0 (hH_at ..) (Nat.le_of_ble_eq_true rfl) (by rw [putGr, hH_put]; exact q)
theorem st_se (h : EvI σ (hH H0 a c t g s u) te i) (h0 : σ[0]? = some (some (.ref a))) (q : D.nx σ (hH H0 a c t g i u)) : sDPut (tVar 0) (tC (.str "seed")) te D σ (hH H0 a c t g s u) := st_put h h0 (hH_at ..) (Nat.le_of_ble_eq_true rfl) (by rw [putSe, hH_put]; exact q)
theorem st_tu (h : EvI σ (hH H0 a c t g s u) te i) (h0 : σ[0]? = some (some (.ref a))) (q : D.nx σ (hH H0 a c t g s i)) : sDPut (tVar 0) (tC (.str "turn")) te D σ (hH H0 a c t g s u) := st_put h h0 (hH_at ..) (Nat.le_of_ble_eq_true rfl) (by rw [putTu, hH_put]; exact q)
theorem ev_at (h0 : σ[0]? = some (some (.ref a))) : EvI σ (hH H0 a c t g s u) (tDGet (tVar 0) (tC (.str "at"))) t := ev_get h0 (hH_at ..) rfl
theorem ev_gr (h0 : σ[0]? = some (some (.ref a))) : EvI σ (hH H0 a c t g s u) (tDGet (tVar 0) (tC (.str "great"))) g := ev_get h0 (hH_at ..) rfl
theorem ev_se (h0 : σ[0]? = some (some (.ref a))) : EvI σ (hH H0 a c t g s u) (tDGet (tVar 0) (tC (.str "seed"))) s := ev_get h0 (hH_at ..) rfl
theorem ev_tu (h0 : σ[0]? = some (some (.ref a))) : EvI σ (hH H0 a c t g s u) (tDGet (tVar 0) (tC (.str "turn"))) u := ev_get h0 (hH_at ..) rfl
end
theorem cmulS {i m k x : Int} (hm : 0 < m) (hm2 : m < 2 ^ 32) (h : x = i % m) : CMul x k := by
  refine cmulL ?_ ?_ <;> (have := Int.emod_nonneg i (show m ≠ 0 by omega); have := Int.emod_lt_of_pos i hm; omega)
theorem st_seqJ {s u : TS} {D : Ends} {σ : L2.St} {H : Hp} (J : L2.St → Hp → Prop) (h : ∀ nx' : L2.St → Hp → Prop, (∀ σ H, J σ H → nx' σ H) → s { D with nx := nx' } σ H) (h2 : ∀ σ H, J σ H → u D σ H) : tSeq s u D σ H := h _ h2
/-! ### the hand as a thing that stays -/
section
variable (P : Program) (w : World)
def handφ (a c : Addr) (h : Heap) : Prop := ∃ t g s u : Int, 0 ≤ t ∧ (a == sysModules) = false ∧ ∃ vs, KV (hkv c t g s u) vs ∧ h.DictOf (mixKind P w) a vs
def handO (a c : Addr) : HO := .ext (handφ P w a c)
end
/-- one object alone -/
def onlyH (h : Heap) (a : Addr) : Heap := { h with objs := h.objs.mapIdx fun i o => if i = a then o else { o with data := .freed } }
theorem onlyH_at (h : Heap) (a : Addr) : (onlyH h a).get? a = h.get? a := by
  unfold onlyH Heap.get?
  rw [Array.getElem?_mapIdx]
  cases h.objs[a]? with
  | none => rfl
  | some o => show (match some (if a = a then o else _) with | some ⟨_, _, .freed, _⟩ => none | o => o) = _; rw [if_pos rfl]; rfl
theorem onlyH_off {h : Heap} {a b : Addr} {o : Obj} (e : (onlyH h a).get? b = some o) : b = a := by
  by_cases c : b = a
  · exact c
  · unfold onlyH Heap.get? at e
    rw [Array.getElem?_mapIdx] at e
    cases q : h.objs[b]? with
    | none => rw [q] at e; cases e
    | some o' => rw [q, Option.map_some, if_neg c] at e; cases e
theorem handφ_stay {P : Program} {w : World} {a c : Addr} : ∀ h1 h2 : Heap, handφ P w a c h1 → (∀ o, h1.get? a = some o → h2.get? a = some o) → handφ P w a c h2 := fun h1 h2 ⟨t, g, s, u, ht, hs, vs, kv, o, es, ep, e, q⟩ k => ⟨t, g, s, u, ht, hs, vs, kv, o, es, ep, k o e, q⟩
theorem hand_nc {P : Program} {w : World} {a c : Addr} {h : Heap} (hφ : handφ P w a c h) : ¬ Chg (handO P w a c) := by
  rintro (⟨_, e⟩ | ⟨_, e⟩ | ⟨_, e⟩ | ⟨P', w', a', ks, e⟩)
  · cases e
  · cases e
  · cases e
  · have e' : handφ P w a c = dxφ P' w' a' ks := HO.ext.inj e
    have h1 := handφ_stay h (onlyH h a) hφ fun o q => by rw [onlyH_at]; exact q
    have h2 := h1
    rw [e'] at h2
    obtain ⟨_, _, xs, _, o, es, ep, g, _, gd, gl, _⟩ := h2
    obtain ⟨t, gg, s, u, ht, hs, vs, kv, o', es', ep', g', _, gd', _, pr, _⟩ := h1
    have : a' = a := onlyH_off g
    subst this
    rw [g] at g'
    cases g'
    rw [gd] at gd'
    cases gd'
    rw [gl] at pr
    cases kv with
    | cons k0 kt =>
      cases xs with
      | nil => cases pr
      | cons x xs =>
        cases pr with
        | cons p0 _ _ =>
          rw [← k0.1] at p0
          cases p0
theorem hk_swap {P : Program} {w : World} {H : Hp} {h : Heap} {a : Addr} {o o' : HO} (x : HOk P w H h) (ha : H a = some o) (h1 : ∀ xs, o ≠ .tup xs) (h2 : ∀ b, o ≠ .own b) (ok : ObjOk P w (upd H a o') h a o') : HOk P w (upd H a o') h := fun b u e => by
  by_cases c : b = a
  · subst c
    rw [upd_same] at e
    cases e
    exact ok
  · rw [upd_ne c] at e
    refine (x b u e).stay (fun _ _ _ q => q) (fun d q => ?_) fun d xs q => ?_
    · rw [upd_ne (fun z => by rw [z, ha] at q; exact h2 _ (Option.some.inj q))]; exact q
    · rw [upd_ne (fun z => by rw [z, ha] at q; exact h1 _ (Option.some.inj q))]; exact q
/-- a hand -/
def rHand (P : Program) (w : World) : Rel := ⟨fun v H => ∃ (a c : Addr) (o : Obj) (ns : List Int), v = .ref a ∧ H a = some (handO P w a c) ∧ H c = some (.frz o (.lst (ns.map V.int))) ∧ ¬ Chg (handO P w a c),
  fun im ⟨a, c, o, ns, e, h1, h2, h3⟩ => ⟨a, c, o, ns, e, im _ _ h3 h1, im _ _ frz_nc h2, h3⟩⟩
/-- what a draw promises -/
def S_draw (P : Program) (w : World) : Spc := fun rs k => ∃ many : Int, rs = [rHand P w, rInt many] ∧ 0 < many ∧ many < 1073741824 ∧ ∀ d : Int, 0 ≤ d → d < many → k (rInt d)
theorem hH_back {P : Program} {w : World} {H : Hp} {a c : Addr} {t g s u : Int} {o : HO} (h : H a = some o) : upd (hH H a c t g s u) a o = H := funext fun b => by
  by_cases e : b = a
  · rw [e, upd_same, h]
  · rw [upd_ne e]; exact upd_ne e
theorem hand_of {P : Program} {w : World} {H : Hp} {h : Heap} {a c : Addr} {t g s u : Int} (ok : HOk P w (hH H a c t g s u) h) (ht : 0 ≤ t) : handφ P w a c h ∧ ∃ o, h.get? a = some o := by
  obtain ⟨_, hs, vs, kv, o, es, ep, e, q⟩ := ok a _ (hH_at ..)
  exact ⟨⟨t, g, s, u, ht, hs, vs, kv, o, es, ep, e, q⟩, o, e⟩
theorem draw_re {P : Program} {w : World} {K : PySem.W.Frag} {mg : Str → Option Value} {base : Heap} {k : Nat} {f : Addr} {fd : FuncData} {x y : Str} (F : FnOk P w K mg base CX0 k f fd [x, y] (spDraw0 K)) : FnOk P w K mg base CX0 k f fd [x, y] (spOf (S_draw P w)) := by
  refine BX.FnOk.re F (len_of fun rs k ⟨many, e, _⟩ => by subst e; rfl) fun vs H Q E hp ok ⟨rs, k, hal, ⟨many, e, hm, hm2, hk⟩, hQ⟩ => ?_
  subst e
  cases hal with
  | cons h1 t1 =>
    cases t1 with
    | cons h2 t2 =>
      cases t2
      obtain ⟨a, c, o, ns, rfl, ha, hc, nc⟩ := h1
      cases h2
      obtain ⟨⟨t, g, s, u, ht, hs, kvs, kv, dof⟩, ⟨ob, hob⟩, _⟩ := ok a _ ha
      have hne : c ≠ a := fun z => by rw [z, ha] at hc; cases hc
      refine ⟨hH H a c t g s u, Re.put ha (fun _ z => nomatch z) (fun _ _ z => nomatch z) (fun _ z => nomatch z) (fun _ z => nomatch z) (fun _ _ z => nomatch z) (fun _ z => nomatch z), hk_swap ok ha (fun _ z => nomatch z) (fun _ z => nomatch z) ⟨Nat.le_of_ble_eq_true rfl, hs, kvs, kv, dof⟩,
        a, c, ns, many, t, g, s, u, H, rfl, rfl, fun t g s u => .inl (.inr ⟨o, by show upd _ _ _ _ = _; rw [upd_ne hne]; exact hc⟩), hm, hm2, ht, fun d t' g' s' u' d0 d1 ht' hp' ok' => ?_⟩
      obtain ⟨hφ, hob'⟩ := hand_of ok' ht'
      refine ⟨H, ?_, ?_, hQ (rInt d) (.int d) H (hk d d0 d1) rfl (Same.refl H)⟩
      · have := Re.put (o' := handO P w a c) (hH_at H a c t' g' s' u') (fun _ z => nomatch z) (fun _ _ z => nomatch z) (fun _ z => nomatch z) (fun _ z => nomatch z) (fun _ _ z => nomatch z) (fun _ z => nomatch z)
        rw [hH_back (P := P) (w := w) ha] at this
        exact this
      · have := hk_swap (o' := handO P w a c) ok' (hH_at H a c t' g' s' u') (fun _ z => nomatch z) (fun _ z => nomatch z) ⟨hφ, hob', handφ_stay⟩
        rw [hH_back (P := P) (w := w) ha] at this
        exact this
/-- the script: a list of ints that nobody changes -/
def rScr (K : PySem.W.Frag) (ns : List Int) : Rel := ⟨fun v H => ∃ a, v = .ref a ∧ ((∃ o, H a = some (.frz o (.lst (ns.map V.int)))) ∨ ∃ (o : Obj) (its : Array Value) (n : Nat), K.lookup a = some o ∧ o.cls = .type "list" ∧ o.dict = none ∧ o.data = .seq its n ∧ its.size ≤ sizeLine ∧ Vals (ns.map V.int) its.toList),
  fun e ⟨a, h1, h2⟩ => ⟨a, h1, h2.imp (fun ⟨o, h⟩ => ⟨o, e _ _ frz_nc h⟩) id⟩⟩
theorem rScr_sq {K : PySem.W.Frag} {ns : List Int} {v : V} {H : Hp} (h : (rScr K ns).p v H) : ∃ a, v = .ref a ∧ SqL K H a (ns.map V.int) := by
  obtain ⟨a, e, h⟩ := h
  refine ⟨a, e, ?_⟩
  rcases h with ⟨o, h⟩ | h
  · exact .inl (.inr ⟨o, h⟩)
  · exact .inr h
theorem rScr_of {K : PySem.W.Frag} {ns : List Int} {a : Addr} {H : Hp} (hO : Only H) (h : SqL K H a (ns.map V.int)) : (rScr K ns).p (.ref a) H := by
  refine ⟨a, rfl, ?_⟩
  rcases h with (h | h) | h
  · rcases hO a with z | ⟨o, xs, z⟩
    · rw [z] at h; cases h
    · rw [z] at h; cases h
  · exact .inl h
  · exact .inr h
/-- what the making of a hand does -/
def spHand0 (K : PySem.W.Frag) : Sp := fun vs H Q E => ∃ ns : List Int, Al H [rScr K ns] vs ∧ ns.length ≤ sizeLine ∧ ∀ (p c : Addr) (o : Obj) (ns' : List Int) (s : Int) (H' : Hp), Same H H' → H' p = none → H' c = some (.frz o (.lst (ns'.map V.int))) → Q (.ref p) (hH H' p c 0 0 s 0)
def S_hand (P : Program) (w : World) (K : PySem.W.Frag) : Spc := fun rs k => ∃ ns : List Int, rs = [rScr K ns] ∧ ns.length ≤ sizeLine ∧ k (rHand P w)
theorem hand_re {P : Program} {w : World} {K : PySem.W.Frag} {mg : Str → Option Value} {base : Heap} {k : Nat} {f : Addr} {fd : FuncData} {x : Str} (F : FnOk P w K mg base CX0 k f fd [x] (spHand0 K)) : FnOk P w K mg base CX0 k f fd [x] (spOf (S_hand P w K)) := by
  refine BX.FnOk.re F (len_of fun rs k ⟨ns, e, _⟩ => by subst e; rfl) fun vs H Q E hp ok ⟨rs, k, hal, ⟨ns, e, hz, hk⟩, hQ⟩ => ?_
  subst e
  refine ⟨H, Re.refl H, ok, ns, hal, hz, fun p c o ns' s H' sm hn hc hp' ok' => ?_⟩
  obtain ⟨hφ, hob'⟩ := hand_of ok' (Int.le_refl 0)
  have hne : c ≠ p := fun z => by rw [z, hn] at hc; cases hc
  have e : upd (hH H' p c 0 0 s 0) p (handO P w p c) = upd H' p (handO P w p c) := upd_upd
  refine ⟨upd H' p (handO P w p c), ?_, ?_, hQ (rHand P w) (.ref p) _ hk ⟨p, c, o, ns', rfl, upd_same, by rw [upd_ne hne]; exact hc, hand_nc hφ⟩ (Same.put sm (Same.free sm hn))⟩
  · have := Re.put (o' := handO P w p c) (hH_at H' p c 0 0 s 0) (fun _ z => nomatch z) (fun _ _ z => nomatch z) (fun _ z => nomatch z) (fun _ z => nomatch z) (fun _ _ z => nomatch z) (fun _ z => nomatch z)
    rw [e] at this
    exact this
  · have := hk_swap (o' := handO P w p c) ok' (hH_at H' p c 0 0 s 0) (fun _ z => nomatch z) (fun _ z => nomatch z) ⟨hφ, hob', handφ_stay⟩
    rw [e] at this
    exact this
/-- a new list, a part of another -/
theorem wl_slL {B : Bd} {Γ : Ctx} {te : TE} {tl th : TO} {kl : List Rel → Prop} (h : WpE B Γ te fun r => ∃ rs, r = rLst rs ∧ WpO B Γ tl fun lo => WpO B Γ th fun hi => kl (cutR rs lo hi)) : WpL B Γ (tSl (rSlL B.K) te tl th) kl := fun σ H E Q hQ =>
  h σ H E _ fun r v H1 ⟨rs, er, h1⟩ p e1 => h1 σ H1 (E.mono e1) _ fun lo H2 h2 e2 => h2 σ H2 (E.mono (Same.trans e1 e2)) _ fun hi H3 hk e3 => by
    subst er
    have e13 := Same.trans e1 (Same.trans e2 e3)
    obtain ⟨a, o, xs, rfl, hs, hal⟩ := Rel.st _ (Same.im (Same.trans e2 e3)) p
    have hl : xs.length = rs.length := (Paired.length hal).symm
    refine ⟨a, xs, rfl, .inl (.inr ⟨o, hs⟩), fun l hl' => hQ _ l _ _ hk (Same.free e13 hl') (Same.trans e13 (Same.new hl')) upd_same ?_⟩
    have q := Al.take (HT.sIx rs.length rs.length hi - HT.sIx rs.length 0 lo) (Al.drop (HT.sIx rs.length 0 lo) hal)
    unfold cutV cutR
    rw [hl]
    exact q.st (Same.im (Same.new hl'))
/-- a new list, a part of the script -/
theorem wl_slS {B : Bd} {Γ : Ctx} {te : TE} {tl th : TO} {kl : List Rel → Prop} (h : WpE B Γ te fun r => ∃ ns : List Int, r = rScr B.K ns ∧ WpO B Γ tl fun lo => WpO B Γ th fun hi => kl (cutR (ns.map rInt) lo hi)) : WpL B Γ (tSl (rSlL B.K) te tl th) kl := fun σ H E Q hQ =>
  h σ H E _ fun r v H1 ⟨rs, er, h1⟩ p e1 => h1 σ H1 (E.mono e1) _ fun lo H2 h2 e2 => h2 σ H2 (E.mono (Same.trans e1 e2)) _ fun hi H3 hk e3 => by
    subst er
    have e13 := Same.trans e1 (Same.trans e2 e3)
    obtain ⟨a, rfl, hs⟩ := rScr_sq (Rel.st _ (Same.im (Same.trans e2 e3)) p)
    refine ⟨a, _, rfl, hs, fun l hl' => hQ _ l _ _ hk (Same.free e13 hl') (Same.trans e13 (Same.new hl')) upd_same ?_⟩
    have hal : Al H3 (rs.map rInt) (rs.map V.int) := ints_al rs
    have q := Al.take (HT.sIx rs.length rs.length hi - HT.sIx rs.length 0 lo) (Al.drop (HT.sIx rs.length 0 lo) hal)
    unfold cutV cutR
    rw [List.length_map, List.length_map]
    exact q.st (Same.im (Same.new hl'))
theorem cutR_map {α β : Type} (f : α → β) (xs : List α) (lo hi : Option Int) : cutR (xs.map f) lo hi = (cutR xs lo hi).map f := by
  unfold cutR
  rw [List.length_map, List.map_take, List.map_drop]
theorem cutR_len {α : Type} (xs : List α) (lo hi : Option Int) : (cutR xs lo hi).length ≤ xs.length := by
  unfold cutR
  rw [List.length_take, List.length_drop]
  omega
theorem paired_snoc {α β : Type} {G : α → β → Prop} : ∀ {as : List α} {bs : List β} {a : α} {b : β}, Paired G as bs → G a b → Paired G (as ++ [a]) (bs ++ [b])
  | _, _, _, _, .nil, h => .cons h .nil
  | _, _, _, _, .cons x t, h => .cons x (paired_snoc t h)
/-- a comprehension whose elements are told by a property -/
theorem wl_lcN {B : Bd} {Γ : Ctx} {α β : Type} (L : List α) {g : α → Rel} {h : β → Rel} (Pr : α → β → Prop) {wi : TI} {g' : TG} {te : TE} {vs : List Nat} {kl : List Rel → Prop}
    (hw : WpI B Γ wi fun n rs => n = L.length ∧ (∀ i (hi : i < L.length), rs i = g L[i]) ∧ L.length ≤ sizeLine ∧
      (∀ x ∈ L, ∀ G st, ∃ Γ2 js, (∀ j, j ∈ js → j ∈ vs) ∧ WpG (B.more G st) (wipeC Γ vs) g' (g x) js Γ2 ∧ WpE (B.more G st) Γ2 te fun r => ∃ y, r = h y ∧ Pr x y) ∧ ∀ ys, Paired Pr L ys → kl (ys.map h)) : WpL B Γ (tLc wi g' tYes te vs) kl := by
  refine wl_lc fun σ H E R hR => hw σ H E R fun J n rs G Y H' ⟨hn, hr, hz, hs, hk⟩ => hR J n rs G Y H' ?_
  subst hn
  refine ⟨fun i es => ∃ ys, es = ys.map h ∧ Paired Pr (L.take i) ys, ⟨[], rfl, .nil⟩, fun i hi es ⟨ys, hes, hp⟩ G st => ?_, fun es ⟨ys, hes, hp⟩ => ?_⟩
  · obtain ⟨Γ2, js, h1, h2, h3⟩ := hs L[i] (List.getElem_mem hi) G st
    rw [← hr i hi] at h2
    refine ⟨Γ2, js, h1, h2, wt_yes ⟨fun _ => we_mono h3 fun r ⟨y, er, hy⟩ => ⟨?_, ys ++ [y], ?_, ?_⟩, fun z => nomatch z⟩⟩
    · have := Paired.length hp
      rw [List.length_take] at this
      subst hes
      rw [List.length_map]
      omega
    · rw [hes, er, List.map_append]
      rfl
    · rw [take_succ_at hi]
      exact paired_snoc hp hy
  · rw [List.take_length] at hp
    rw [hes]
    exact hk ys hp
/-- a loop over so many things as turn out, any state with a property -/
theorem ws_forQ {B : Bd} {Γ : Ctx} {D : Ends} {S : Type} (I : Nat → S → Prop) (s0 : S) (Γs : S → Ctx) {wi : TI} {g' : TG} {tb tz : TS}
    (hw : WpI B Γ wi fun n rs => Weak Γ (Γs s0) ∧ I 0 s0 ∧
      (∀ i, i < n → ∀ s, I i s → ∀ G st, ∃ Γ2 js, WpG (B.more G st) (Γs s) g' (rs i) js Γ2 ∧
        WpS (B.more G st) { D with nx := fun σ H => ∃ s', I (i + 1) s' ∧ Env (B.more G st) (Γs s') σ H, ct := fun σ H => ∃ s', I (i + 1) s' ∧ Env (B.more G st) (Γs s') σ H, bk := tz D } Γ2 tb) ∧
      ∀ s, I n s → WpS B D (Γs s) tz) : WpS B D Γ (tSeq (tFor wi g' tb) tz) := fun σ H E => by
  refine hw σ H E _ fun J n rs G Y H1 ⟨hwk, h0, hs, hz⟩ e w hG im hY => ?_
  refine for_it w (fun i σ H => ∃ s, I i s ∧ Env (B.more G im) (Γs s) σ H) ⟨s0, h0, ((E.mono e).wk hwk).more hG⟩ (fun i σ H _ ⟨s, _, p⟩ => p.fx.2) (fun i x σ' H2 H3 hi ⟨s, hI, p⟩ y => ?_) fun σ' H2 ⟨s, hI, p⟩ => hz s hI σ' H2 p.less
  obtain ⟨e1, px⟩ := hY i H2 x H3 hi p.fx.2 y
  obtain ⟨Γ2, js, hg, hb⟩ := hs i hi s hI G im
  exact hg σ' H3 x (p.mono e1) px _ fun σ2 H4 E2 e2 _ _ => hb σ2 H4 E2
end BX
set_option Elab.async false
set_option linter.all false
set_option maxRecDepth 100000
set_option maxHeartbeats 1000000
/-! BXs: == of data, zip of tuples, .. (for k01). -/
namespace BX
open PySem PySem.Spec PyProof.Rows L2
/-! ### == of nested tuples, told -/
def DpR (K : PySem.W.Frag) (r : Rel) (d : PyData) : Prop := ∀ v H, r.p v H → Dp K H v d
theorem dpR_int {K : PySem.W.Frag} (i : Int) : DpR K (rInt i) (.int i) := fun v H h => by cases h; exact .int i
theorem dpR_all {K : PySem.W.Frag} {H : Hp} : ∀ {rs : List Rel} {ds : List PyData} {vs : List V}, Paired (fun r d => DpR K r d) rs ds → Al H rs vs → DpAll K H vs ds
  | [], [], _, .nil, .nil => .nil
  | _ :: _, _ :: _, _, .cons h t, .cons p q => .cons (h _ _ p) (dpR_all t q)
theorem dpR_tup {K : PySem.W.Frag} {rs : List Rel} {ds : List PyData} (h : Paired (fun r d => DpR K r d) rs ds) : DpR K (rTup K rs) (.tuple ds) := fun v H ⟨a, xs, e, hs, hal⟩ => by
  subst e
  exact .tup hs (dpR_all h hal)
theorem paired_map {α β γ : Type} {G : β → γ → Prop} {f : α → β} {g : α → γ} : ∀ (L : List α), (∀ x, x ∈ L → G (f x) (g x)) → Paired G (L.map f) (L.map g)
  | [], _ => .nil
  | x :: L, h => .cons (h x (List.mem_cons_self ..)) (paired_map L fun y hy => h y (List.mem_cons_of_mem _ hy))
theorem dpR_key {K : PySem.W.Frag} (k : List Int) : DpR K (rKey K k) (keyD k) := dpR_tup (paired_map k fun i _ => dpR_int i)
theorem lay_ints : ∀ k : List Int, PyData.canLayAll0 (k.map PyData.int) = true ∧ PyData.depthAll (k.map PyData.int) = 0
  | [] => ⟨rfl, rfl⟩
  | x :: k => by
    obtain ⟨h1, h2⟩ := lay_ints k
    refine ⟨?_, ?_⟩
    · show (PyData.canLay0 (.int x) && PyData.canLayAll0 (k.map PyData.int)) = true
      rw [h1]
      rfl
    · show max (PyData.depth (.int x)) (PyData.depthAll (k.map PyData.int)) = 0
      rw [h2]
      rfl
theorem sh_key (k : List Int) : SeqAt.shaped (keyD k) = true := by
  obtain ⟨h1, h2⟩ := lay_ints k
  unfold SeqAt.shaped keyD
  have e1 : PyData.canLay0 (.tuple (k.map .int)) = true := h1
  have e2 : PyData.depth (.tuple (k.map .int)) = 1 := by
    show PyData.depthAll (k.map PyData.int) + 1 = 1
    rw [h2]
  rw [e1, e2]
  rfl
theorem eqv_ints : ∀ a b : List Int, PyData.eqvAll (a.map PyData.int) (b.map PyData.int) = decide (a = b)
  | [], [] => rfl
  | [], _ :: _ => by
    show false = _
    rw [decide_eq_false (by simp)]
  | _ :: _, [] => by
    show false = _
    rw [decide_eq_false (by simp)]
  | x :: a, y :: b => by
    show ((x == y) && PyData.eqvAll (a.map PyData.int) (b.map PyData.int)) = _
    rw [eqv_ints a b, Bool.eq_iff_iff]
    simp
theorem eqv_key (a b : List Int) : PyData.eqv (keyD a) (keyD b) = decide (a = b) := eqv_ints a b
theorem k_eqD {X : Cx} {K : PySem.W.Frag} (hK : X.K = K) (hu : X.A.units + 64 < cLine) : OpR X (compareOp .Eq) (rEqD K) := by subst hK; exact op_eqD hu
theorem k_neD {X : Cx} {K : PySem.W.Frag} (hK : X.K = K) (hu : X.A.units + 64 < cLine) : OpR X (compareOp .NotEq) (rNeD K) := by subst hK; exact op_neD hu
theorem ot_eqD {B : Bd} {k : Rel → Prop} {ra rb : Rel} {d e : PyData} (h1 : DpR B.K ra d) (h2 : DpR B.K rb e) (s1 : SeqAt.shaped d = true) (s2 : SeqAt.shaped e = true) (q : k (rBl (PyData.eqv d e))) : OpT B (rEqD B.K) ra rb k := fun H x y _ p1 p2 Q hQ =>
  ⟨d, e, h1 x H p1, h2 y H p2, s1, s2, hQ _ _ H q rfl (Same.refl H)⟩
theorem ot_neD {B : Bd} {k : Rel → Prop} {ra rb : Rel} {d e : PyData} (h1 : DpR B.K ra d) (h2 : DpR B.K rb e) (s1 : SeqAt.shaped d = true) (s2 : SeqAt.shaped e = true) (q : k (rBl (!PyData.eqv d e))) : OpT B (rNeD B.K) ra rb k := fun H x y _ p1 p2 Q hQ =>
  ⟨d, e, h1 x H p1, h2 y H p2, s1, s2, hQ _ _ H q rfl (Same.refl H)⟩
theorem ot_eqK {B : Bd} {k : Rel → Prop} {a b : List Int} (q : k (rBl (decide (a = b)))) : OpT B (rEqD B.K) (rKey B.K a) (rKey B.K b) k := ot_eqD (dpR_key a) (dpR_key b) (sh_key a) (sh_key b) (by rw [eqv_key]; exact q)
theorem ot_neK {B : Bd} {k : Rel → Prop} {a b : List Int} (q : k (rBl (!decide (a = b)))) : OpT B (rNeD B.K) (rKey B.K a) (rKey B.K b) k := ot_neD (dpR_key a) (dpR_key b) (sh_key a) (sh_key b) (by rw [eqv_key]; exact q)
/-- the terms of a polynomial -/
def tmD (t : List Int × Int) : PyData := .tuple [keyD t.1, .int t.2]
def tmsD (ts : PT) : PyData := .tuple (ts.map tmD)
theorem lay_tms : ∀ ts : PT, PyData.canLayAll0 (ts.map tmD) = true ∧ PyData.depthAll (ts.map tmD) ≤ 2
  | [] => ⟨rfl, Nat.zero_le _⟩
  | t :: ts => by
    obtain ⟨h1, h2⟩ := lay_tms ts
    obtain ⟨g1, g2⟩ := lay_ints t.1
    refine ⟨?_, ?_⟩
    · show ((PyData.canLayAll0 (t.1.map PyData.int) && (true && true)) && PyData.canLayAll0 (ts.map tmD)) = true
      rw [h1, g1]
      rfl
    · show max (max (PyData.depthAll (t.1.map PyData.int) + 1) (max 0 0) + 1) (PyData.depthAll (ts.map tmD)) ≤ 2
      rw [g2]
      omega
theorem sh_tms (ts : PT) : SeqAt.shaped (tmsD ts) = true := by
  obtain ⟨h1, h2⟩ := lay_tms ts
  unfold SeqAt.shaped tmsD
  have e1 : PyData.canLay0 (.tuple (ts.map tmD)) = true := h1
  rw [e1, decide_eq_true (show PyData.depth (.tuple (ts.map tmD)) ≤ 64 by show PyData.depthAll (ts.map tmD) + 1 ≤ 64; omega)]
  rfl
theorem eqv_tms : ∀ a b : PT, PyData.eqvAll (a.map tmD) (b.map tmD) = decide (a = b)
  | [], [] => rfl
  | [], _ :: _ => by
    show false = _
    rw [decide_eq_false (by simp)]
  | _ :: _, [] => by
    show false = _
    rw [decide_eq_false (by simp)]
  | x :: a, y :: b => by
    show ((PyData.eqvAll (x.1.map PyData.int) (y.1.map PyData.int) && ((x.2 == y.2) && true)) && PyData.eqvAll (a.map tmD) (b.map tmD)) = _
    rw [eqv_tms a b, eqv_ints, Bool.eq_iff_iff]
    obtain ⟨x1, x2⟩ := x
    obtain ⟨y1, y2⟩ := y
    simp
theorem dpR_tms {K : PySem.W.Frag} (ts : PT) : DpR K (rTup K (ts.map fun t => rTup K [rKey K t.1, rInt t.2])) (tmsD ts) := dpR_tup (paired_map ts fun t _ => dpR_tup (.cons (dpR_key t.1) (.cons (dpR_int t.2) .nil)))
theorem ot_eqTms {B : Bd} {k : Rel → Prop} {a b : PT} (q : k (rBl (decide (a = b)))) : OpT B (rEqD B.K) (rTup B.K (a.map fun t => rTup B.K [rKey B.K t.1, rInt t.2])) (rTup B.K (b.map fun t => rTup B.K [rKey B.K t.1, rInt t.2])) k :=
  ot_eqD (dpR_tms a) (dpR_tms b) (sh_tms a) (sh_tms b) (by show k (rBl (PyData.eqvAll (a.map tmD) (b.map tmD))); rw [eqv_tms]; exact q)
theorem ot_neTms {B : Bd} {k : Rel → Prop} {a b : PT} (q : k (rBl (!decide (a = b)))) : OpT B (rNeD B.K) (rTup B.K (a.map fun t => rTup B.K [rKey B.K t.1, rInt t.2])) (rTup B.K (b.map fun t => rTup B.K [rKey B.K t.1, rInt t.2])) k :=
  ot_neD (dpR_tms a) (dpR_tms b) (sh_tms a) (sh_tms b) (by show k (rBl (!PyData.eqvAll (a.map tmD) (b.map tmD))); rw [eqv_tms]; exact q)
/-! ### zip of tuples -/
theorem walk_zipT {K : PySem.W.Frag} {a b : Addr} {xs ys : List V} {n : Nat} (hn : n = min xs.length ys.length) : Walk (RZ.ItzT K a b) n (fun H => SqT K H a xs ∧ SqT K H b ys) (YPair (fun i => xs[i]?) (fun i => ys[i]?)) := by
  subst hn
  refine ⟨fun i H hi q => ?_, fun H q => ⟨xs, ys, q.1, q.2, by omega⟩, fun i H v H' _ q y => ?_⟩
  · have h1 : i < xs.length := by omega
    have h2 : i < ys.length := by omega
    exact ⟨xs, ys, xs[i], ys[i], q.1, q.2, by simp [h1], by simp [h2]⟩
  · obtain ⟨T, x, z, h1, h2, h3, h4, h5⟩ := y
    exact ⟨T, x, z, h1, h2, h3, h4 xs q.1, h5 ys q.2⟩
theorem wi_zipT {B : Bd} {Γ : Ctx} {ta : TA} {k : Nat → (Nat → Rel) → Prop} (h : WpA B Γ ta fun rs' => ∃ rs ss, rs' = [rTup B.K rs, rTup B.K ss] ∧ k (min rs.length ss.length) fun i => rTup B.K [rs.getD i (rC .non), ss.getD i (rC .non)]) : WpI B Γ (RZ.iZipA B.K ta) k := fun σ H E R hR =>
  h σ H E _ fun rs' vs H1 ⟨rs, ss, er, hk⟩ p e => by
    subst er
    cases p with
    | cons p t =>
      cases t with
      | cons p' t =>
        cases t
        obtain ⟨a, xs, rfl, hs, hal⟩ := p
        obtain ⟨b, ys, rfl, hs', hal'⟩ := p'
        refine ⟨a, b, xs, ys, rfl, .inr ⟨hs, hs', ?_⟩⟩
        have w : Walk (RZ.ItzT B.K a b) (min rs.length ss.length) (fun H => (SqT B.K H a xs ∧ Al H rs xs) ∧ SqT B.K H b ys ∧ Al H ss ys) (YPair (fun i => xs[i]?) (fun i => ys[i]?)) :=
          (walk_zipT (by rw [Paired.length hal, Paired.length hal'])).mono (fun _ z => ⟨z.1.1, z.2.1⟩) fun _ _ _ _ _ _ y => y
        refine hR _ _ _ _ _ H1 hk e w ⟨⟨hs, hal⟩, hs', hal'⟩ (fun H1 H2 im z => ⟨⟨sqT_im im z.1.1, z.1.2.st im⟩, sqT_im im z.2.1, z.2.2.st im⟩) fun i H1 x H2 hi z y => ?_
        obtain ⟨T, x1, x2, rfl, hT, rfl, h1, h2⟩ := y
        obtain ⟨r, hr, pr⟩ := z.1.2.get h1
        obtain ⟨r', hr', pr'⟩ := z.2.2.get h2
        refine ⟨Same.new hT, T, _, rfl, .inl (.inl upd_same), .cons ?_ (.cons ?_ .nil)⟩
        · rw [List.getD_eq_getElem?_getD, hr]
          exact r.st (Same.im (Same.new hT)) pr
        · rw [List.getD_eq_getElem?_getD, hr']
          exact r'.st (Same.im (Same.new hT)) pr'
theorem q_zipT {X : Cx} {K : PySem.W.Frag} {e e2 : Expr} {ta : TA} {p pos tpos : Pos} {elts : List Expr} {kk : Nat} (hK : X.K = K) (hg : Gl X "zip") (hm : X.mg "zip" = none) (ha : PA X [e, e2] ta)
    (hs : starEach [e, e2] X.env = (false, eval e X.env) :: starEach [e2] X.env := by rfl) (hpl : (backTo pos (starEach [e2] X.env)).any (·.1) = false := by rfl) :
    PI X (.Tuple elts kk tpos) (.Call (.Name "zip" p) [e, e2] [] pos) (RZ.iZipA K ta) := by subst hK; exact RZ.pi_zipA hg hm ha hs hpl
/-! ### an index of a tuple or a list -/
def rIxE (K : PySem.W.Frag) : R2 := fun x y H Q => rIxT K x y H Q ∨ rIxL K x y H Q
theorem k_ixE {X : Cx} {K : PySem.W.Frag} (hK : X.K = K) : IxR X (rIxE K) := by
  subst hK
  intro ve se pins s σ H x y v u Q I rx ry h hs
  rcases h with h | h
  · exact ix_tup ve se pins s σ H x y v u Q I rx ry h hs
  · exact ix_list ve se pins s σ H x y v u Q I rx ry h hs
theorem ot_ixE {B : Bd} {k : Rel → Prop} {rs : List Rel} {i : Int} {r rp : Rel} (hp : rp = rTup B.K rs ∨ rp = rLst rs) (h : atI rs i = some r) (q : k r) : OpT B (rIxE B.K) rp (rInt i) k := fun H x y e h1 h2 Q hQ => by
  rcases hp with rfl | rfl
  · exact .inl (ot_ixT h q H x y e h1 h2 Q hQ)
  · exact .inr (ot_ixL h q H x y e h1 h2 Q hQ)
end BX
set_option Elab.async false
set_option linter.all false
set_option maxRecDepth 100000
set_option maxHeartbeats 1000000
/-! BXt: // by a positive int of any size (the model asks that nothing watches _pylong). -/
namespace BX
open PySem PySem.Spec PyProof.Rows L2
def strKeysB (es : Array DictEntry) : Bool := es.toList.all fun e => match e.key with
  | .str _ _ => true
  | _ => false
theorem strKeys_ok {es : Array DictEntry} (h : strKeysB es = true) : StrKeys es := fun e he => by
  have := List.all_eq_true.mp h e (Array.mem_toList_iff.mpr he)
  cases q : e.key with
  | str n t => exact ⟨n, t, rfl⟩
  | _ => rw [q] at this; cases this
def dictB (K : PySem.W.Frag) (a : Addr) (xs : List Str) : Bool := match K.lookup a with
  | some ⟨_, _, .dict es _, _⟩ => strKeysB es && xs.all fun x => (nsFind es x).isNone
  | _ => false
theorem dictB_ok {K : PySem.W.Frag} {h : Heap} {a : Addr} {xs : List Str} (X : K.In h) (e : dictB K a xs = true) : ∃ m, h.Ns a m ∧ ∀ x, x ∈ xs → m x = none := by
  unfold dictB at e
  split at e
  · rename_i c d es n sl q
    obtain ⟨e1, e2⟩ := Bool.and_eq_true_iff.mp e
    refine ⟨fun x => nsFind es x, ⟨_, es, n, X _ _ q, rfl, strKeys_ok e1, fun _ => rfl⟩, fun x hx => ?_⟩
    exact Option.isNone_iff_eq_none.mp (List.all_eq_true.mp e2 x hx)
  · cases e
def mainB (K : PySem.W.Frag) : Bool := match PySem.W.nsIn K mainGlobals "__builtins__" with
  | some (some (.ref bm)) => (match K.lookup bm with
    | some ob => decide (ob.cls = .type "module") && decide (ob.dict = some builtinsNs)
    | none => false)
  | _ => false
def seerB (K : PySem.W.Frag) : Bool := dictB K cStatics ["sys.audit-hooks", "sys.dict"] && (dictB K sysModules ["_pylong"] && mainB K)
theorem seer_of {K : PySem.W.Frag} {h : Heap} {mg mb : Str → Option Value} (X : K.In h) (G : h.Ns mainGlobals mg) (B : h.Ns builtinsNs mb) (hb : ∀ x : Str, x ≠ "__name__" → mb x = bootBuiltins x) (e : seerB K = true) : h.NoSeer := by
  obtain ⟨e1, e⟩ := Bool.and_eq_true_iff.mp e
  obtain ⟨e2, e3⟩ := Bool.and_eq_true_iff.mp e
  obtain ⟨mc, nc, c0⟩ := dictB_ok X e1
  obtain ⟨mm, nm, m0⟩ := dictB_ok X e2
  refine ⟨⟨mc, nc, c0 _ (by simp), c0 _ (by simp)⟩, ⟨mm, nm, m0 _ (by simp)⟩, ⟨mb, B, hb⟩, ?_⟩
  unfold mainB at e3
  split at e3
  · rename_i bm q
    split at e3
    · rename_i ob q2
      obtain ⟨h1, h2⟩ := Bool.and_eq_true_iff.mp e3
      exact ⟨mg, bm, ob, G, PySem.W.mg_of X G q, X _ _ q2, of_decide_eq_true h1, of_decide_eq_true h2⟩
    · cases e3
  · cases e3
/-- what // by a great int asks of the context -/
structure SeerX (X : Cx) : Prop where
  tree : X.prog.given.tree = none
  k : seerB X.K = true
  gen : X.env.scope.isGenerator = false
  co : X.env.scope.isCoroutine = false
  stk : X.stack = X.env :: X.outer
  dp : X.A.depth + 100 < recursionLimit
theorem op_fdivP {X : Cx} (S : SeerX X) : OpR X (binaryOp .FloorDiv) (rI (fun _ j => 0 < j) fun i j => .int (i / j)) := by
  intro pins s σ H x y v u Q I rx ry h
  obtain ⟨i, j, rfl, rfl, hc, q⟩ := h
  obtain ⟨t, rfl⟩ := rx
  obtain ⟨t', rfl⟩ := ry
  have ok := I.ok
  obtain ⟨mb, B, hb⟩ := ok.mod.blt
  have sr : s.heap.NoSeer := (seer_of ok.mod.kin ok.mod.glob B hb S.k).keeps I.bk
  have fr : X.A.frames = some (X.env :: X.outer) := by rw [ok.frames, S.stk]
  have hpos : (0 : Int) < j := hc
  refine floordiv_int (by omega) ⟨.int _, H, I.tok _, ⟨_, rfl⟩, by rw [Int.fdiv_eq_ediv_of_nonneg i (by omega)]; exact q⟩ (.inr (PySem.PylongRoom.of I.nolimit S.dp (PySem.SeerAt.of sr S.tree fr S.gen S.co ok.blt ok.glob)))
theorem dp_of {k : Nat} {A : Around} (r : Room k A) (h : 32 ≤ k) : A.depth + 100 < recursionLimit := by have := r.dp; omega
end BX
namespace BX
open PySem PySem.Spec PyProof.Rows L2
/-! ### tuple * 1 -/
theorem tuple_mul1 (l : Addr) (items : Array Value) (n : Nat) (dd : Option Addr) (sl : Array (Option Value)) (u : Tok) :
    Meets (Builtin.«tuple.__mul__» ⟨[.ref l, .int 1 u], []⟩) (fun _ R s => s.heap.get? l = some { cls := .type "tuple", dict := dd, data := .seq items n, slots := sl } ∧
      R (.ok (.ret (Value.ref l))) s) :=
  .of_wp fun prog w A R s h => by
    obtain ⟨hp, g, d, tk, os⟩ := s
    obtain ⟨hl, h⟩ := h
    have f1 := AutoSeq1.idx_int
    wp_walk using wpAny_loadPart' hl
    exact ⟨_, rfl, h⟩
def rRep1 (K : PySem.W.Frag) : R2 := fun x y H Q => ∃ l xs, x = .ref l ∧ y = .int 1 ∧ SqT K H l xs ∧ Q (.ref l) H
theorem op_rep1 {X : Cx} : OpR X (binaryOp .Mult) (rRep1 X.K) := by
  intro pins s σ H x y v u Q I rx ry h
  obtain ⟨l, xs, rfl, rfl, hT, q⟩ := h
  cases rx
  obtain ⟨t, rfl⟩ := ry
  obtain ⟨its, r, ⟨⟨cls, dd, data, sl⟩, ho, hc, n, hd⟩, hs⟩ := I.tuple hT
  simp only at hc hd
  subst hc hd
  refine wpAny_binaryOp_repeat_ref (T := "tuple") (U := "int") (by decide) ⟨_, ho, rfl⟩ (fun s' => typeIs_int s' 1 t) noFill_tuple_mul F.fills_int_mul F.slot_int_rmul repeat_tuple F.slot_int_index.lookup
    (call_meets F.slot_int_rmul (typeIs_int s 1 t) F.entry_int_rmul (F.args_int_rmul_2 _ _) (int_rmul_tuple 1 t l its.toArray n dd sl)
      ⟨ho, rfl, ⟨_, ho, rfl⟩, call_meets F.slot_tuple_mul ⟨_, ho, rfl⟩ F.entry_tuple_mul (F.args_tuple_mul_2 _ _) (tuple_mul1 l its.toArray n dd sl t) ⟨ho, ?_⟩⟩)
  exact ⟨.ref l, _, I, rfl, q⟩
theorem k_rep1 {X : Cx} {K : PySem.W.Frag} (hK : X.K = K) : OpR X (binaryOp .Mult) (rRep1 K) := by subst hK; exact op_rep1
theorem ot_rep1 {B : Bd} {k : Rel → Prop} {rs : List Rel} (q : k (rTup B.K rs)) : OpT B (rRep1 B.K) (rTup B.K rs) (rInt 1) k := fun H x y _ ⟨a, xs, ex, hs, hal⟩ h2 Q hQ => by
  subst ex
  cases h2
  exact ⟨a, xs, rfl, rfl, hs, hQ _ _ H q ⟨a, xs, rfl, hs, hal⟩ (Same.refl H)⟩
end BX
namespace BX
open PySem PySem.Spec PyProof.Rows L2
/-! ### an __init__ that sets three attributes to what slots hold -/
theorem ndx_ins {C' : Addr} {fs' : List (Str × Rel)} (h0 : fs' ≠ []) (h : ∀ p ∈ fs', Ndx p.2) : Ndx (rIns C' fs') := fun v H x C dx o p hx => by
  obtain ⟨a, dx', xs, e, ha, hp⟩ := p
  have hne : a ≠ x := fun z => by
    rw [z, hx] at ha
    cases ha
    cases hp
    exact h0 rfl
  refine ⟨a, dx', xs, e, by rw [upd_ne hne]; exact ha, ?_⟩
  clear e ha hne h0
  induction hp with
  | nil => exact .nil
  | cons h1 t ih => exact .cons ⟨h1.1, h _ (List.mem_cons_self ..) _ _ _ _ _ _ h1.2 hx⟩ (ih fun r hr => h r (List.mem_cons_of_mem _ hr))
theorem ws_fld3 {B : Bd} {Γ : Ctx} {D : Ends} {x C dx : Addr} {f1 f2 f3 : Str} {r1 r2 r3 : Rel} {i a b c : Nat} (hi : Γ[i]? = some (.im (rC (.ref x)))) (h1 : Γ[a]? = some (.im r1)) (h2 : Γ[b]? = some (.im r2)) (h3 : Γ[c]? = some (.im r3))
    (hD : FinK B x C dx [(f1, r1), (f2, r2), (f3, r3)] D) (hB : ∀ H, B.fx H → H x = some (.ins C dx [])) (cl : Cls B.K C) (na1 : NoAttr B.K C f1) (na2 : NoAttr B.K C f2) (na3 : NoAttr B.K C f3)
    (n1 : Ndx r1) (n2 : Ndx r2) (n3 : Ndx r3) (hp : ∀ y1 y2 y3 : V, putF f3 y3 (putF f2 y2 (putF f1 y1 [])) = [(f1, y1), (f2, y2), (f3, y3)]) (hl1 : ∀ y1 : V, (putF f1 y1 []).length < 1000) (hl2 : ∀ y1 y2 : V, (putF f2 y2 (putF f1 y1 [])).length < 1000) :
    WpS B D Γ (tSeq (sFld B.K (tVar i) (tVar a) f1) (tSeq (sFld B.K (tVar i) (tVar b) f2) (tSeq (sFld B.K (tVar i) (tVar c) f3) tNext))) := fun σ H E => by
  obtain ⟨v, hv, ev⟩ := E.im_at hi
  cases ev
  obtain ⟨y1, g1, p1⟩ := E.im_at h1
  obtain ⟨y2, g2, p2⟩ := E.im_at h2
  obtain ⟨y3, g3, p3⟩ := E.im_at h3
  have hx := hB H E.fx
  refine ⟨_, g1, _, hv, x, C, dx, [], rfl, hx, cl, na1, by decide, ?_⟩
  refine ⟨_, g2, _, hv, x, C, dx, _, rfl, upd_same, cl, na2, hl1 y1, ?_⟩
  refine ⟨_, g3, _, hv, x, C, dx, _, rfl, upd_same, cl, na3, hl2 y1 y2, ?_⟩
  rw [upd_upd, upd_upd, hp]
  exact hD σ H _ E.ex hx (.cons ⟨rfl, n1 _ _ _ _ _ _ p1 hx⟩ (.cons ⟨rfl, n2 _ _ _ _ _ _ p2 hx⟩ (.cons ⟨rfl, n3 _ _ _ _ _ _ p3 hx⟩ .nil)))
end BX
set_option Elab.async false
set_option linter.all false
set_option maxRecDepth 100000
set_option maxHeartbeats 1000000
/-! BXu: == of dicts and of instances, told either way; == of lists that hold dicts; a list's items exchanged. -/
namespace BX
open PySem PySem.Spec PyProof.Rows L2
section
variable {prog : Program} {w : World} {K : Type} [DecidableEq K] {knd : HeapKind prog w K} {A : Around} {E : Value → Shared → Prop} {s : Shared}
/-- two dicts, each entry of the first one found alike in the second, or not -/
theorem same_pairsB {nm : String} {a b : Addr} {xs ys : List (K × Addr × Value)} {Q : Bool → Shared → Prop} {ans : K × Addr × Value → Bool} (hu : knd.room A) (ha : (a == sysModules) = false) (hb : (b == sysModules) = false)
    (da : s.heap.DictOfH knd a xs) (db : s.heap.DictOfH knd b ys) (hl : xs.length = ys.length)
    (hits : ∀ (i : Nat) k p v, xs[i]? = some (k, p, v) → ((∀ (j : Nat) (q : Addr × Value), ys[j]? ≠ some (k, q)) → ans (k, p, v) = false) ∧ ∀ (j : Nat) (q : Addr × Value), ys[j]? = some (k, q) → PySem.SeqAt.EqP prog w A s v q.2 (ans (k, p, v))) (h : Q (xs.all ans) s) :
    wpAny (model prog w) A (Builtin.Dict.samePairs nm a b) Q E s := by
  obtain ⟨oa, es, ep, hoa, _, hda, hea, hia, hna⟩ := da
  obtain ⟨ob, es', ep', hob, _, hdb, heb, hib, hnb⟩ := db
  have hla : es.size = xs.length := size_of_entries hea
  have hlb : es'.size = ys.length := size_of_entries heb
  have hsz : es.size = es'.size := by omega
  unfold Builtin.Dict.samePairs Builtin.Dict.showsAll
  rw [if_neg (show ¬ (a == sysModules) = true by rw [ha]; exact Bool.false_ne_true), if_neg (show ¬ (b == sysModules) = true by rw [hb]; exact Bool.false_ne_true)]
  refine wpAny_bind (wpAny_pure (wpAny_bind (wpAny_pure ?_)))
  refine wpAny_bind (wpAny_dictEntries hoa hda ?_)
  dsimp only
  refine wpAny_bind (wpAny_dictEntries hob hdb ?_)
  rw [if_neg (by rw [hsz]; simp)]
  refine wpAny_bind (wpAny_dictEpoch hoa hda ?_)
  refine wpAny_bind ?_
  rw [Std.Legacy.Range.forIn_eq_forIn_range']
  simp only [Std.Legacy.Range.size, Nat.sub_zero, Nat.add_sub_cancel, Nat.div_one]
  refine wpAny_forIn_list _ (fun rest q s' => s' = s ∧ q = (none, ()) ∧ ∃ i, rest = List.range' i (es.size - i) ∧ i ≤ es.size ∧ (xs.take i).all ans = true) _ ?_ ?_ _ _ ⟨rfl, rfl, 0, by simp, Nat.zero_le _, rfl⟩
  · rintro x rest q s' ⟨rfl, rfl, i, hr, hi, hall⟩
    have hlt : i < es.size := by
      rcases Nat.lt_or_ge i es.size with h | h
      · exact h
      · rw [Nat.sub_eq_zero_of_le h] at hr; simp at hr
    obtain ⟨rfl, hrest⟩ : x = i ∧ rest = List.range' (i + 1) (es.size - (i + 1)) := by
      have e : es.size - i = (es.size - (i + 1)) + 1 := by omega
      rw [e, List.range'_succ] at hr
      injection hr with h1 h2
      exact ⟨h1, h2⟩
    refine wpAny_bind (wpAny_dictEntries hoa hda ?_)
    have hx' : x < xs.length := by omega
    obtain ⟨⟨k, p, v⟩, hx⟩ : ∃ z, xs[x]? = some z := ⟨xs[x], List.getElem?_eq_getElem hx'⟩
    have he1 : es[x]? = some (entryOfKey knd (k, p, v)) := by rw [entry_at hea x, hx]; rfl
    rw [he1]
    obtain ⟨h0, hq⟩ := hits x k p v hx
    have hxe : xs[x] = (k, p, v) := by rw [List.getElem?_eq_getElem hx'] at hx; exact Option.some.inj hx
    have ht : (xs.take (x + 1)).all ans = ans (k, p, v) := by
      rw [take_succ_at hx', List.all_append, hall, Bool.true_and, hxe]
      show (ans (k, p, v) && true) = _
      rw [Bool.and_true]
    have hf : ans (k, p, v) = false → xs.all ans = false := fun z => by
      rw [← List.take_append_drop (x + 1) xs, List.all_append, ht, z, Bool.false_and]
    show wpAny _ _ (holding [Value.ref p, v] _ >>= _) _ _ _
    refine wpAny_bind (wpAny_holding (wpAny_bind (wpAny_dictFind_heap hu (hia _ (List.mem_of_getElem? hx)) hob hdb heb hib hnb (fun hn => ?_) fun j q hj => ?_)))
    · refine wpAny_pure ?_
      rw [if_pos (by decide)]
      refine wpAny_pure ?_
      show wpAny _ _ (pure false) Q E _
      refine wpAny_pure ?_
      rw [hf (h0 hn)] at h
      exact h
    · have he2 : es'[j]? = some (entryOfKey knd (k, q)) := by rw [entry_at heb j, hj]; rfl
      refine wpAny_bind (wpAny_dictEntries hob hdb ?_)
      rw [he2]
      refine wpAny_holding ((hq j q hj) _ _ ?_)
      cases hans : ans (k, p, v) with
      | true =>
        show wpAny _ _ (if (!true) = true then _ else _) _ _ _
        rw [if_neg (by decide)]
        refine wpAny_bind (wpAny_dictEpoch hoa hda ?_)
        rw [if_neg (by simp)]
        exact wpAny_pure ⟨rfl, rfl, x + 1, hrest, hlt, by rw [ht, hans]⟩
      | false =>
        show wpAny _ _ (if (!false) = true then _ else _) _ _ _
        rw [if_pos (by decide)]
        refine wpAny_pure ?_
        show wpAny _ _ (pure false) Q E _
        refine wpAny_pure ?_
        rw [hf hans] at h
        exact h
  · rintro q s' ⟨rfl, rfl, i, hr, hi, hall⟩
    have hz : i = es.size := by
      rcases Nat.lt_or_ge i es.size with h | h
      · have e : es.size - i = (es.size - (i + 1)) + 1 := by omega
        rw [e, List.range'_succ] at hr
        cases hr
      · omega
    rw [show xs.take i = xs by rw [hz, hla, List.take_length]] at hall
    rw [hall] at h
    exact wpAny_pure h
theorem rc_dictB {a b : Addr} {xs ys : List (K × Addr × Value)} {Q : Value → Shared → Prop} {r : Bool} (hr : knd.room A.in1) (ha : (a == sysModules) = false) (hb : (b == sysModules) = false)
    (da : s.heap.DictOfH knd a xs) (db : s.heap.DictOfH knd b ys) (hu : A.units < cLine) (hs : ∀ (nm : String) (Q : Bool → Shared → Prop), Q r s → wpAny (model prog w) A.in1 (Builtin.Dict.samePairs nm a b) Q E s) (h : Q (.bool r) s) :
    wpAny (model prog w) A (richCompare .Eq (.ref a) (.ref b)) Q E s := by
  refine wpAny_richCompare_same_room (op := .Eq) da.typeIs db.typeIs PySem.F.slot_dict_eq (wpAny_call_entry PySem.F.slot_dict_eq da.typeIs PySem.F.entry_dict_eq ?_ (PySem.F.args_dict_eq_2 _ _)) hu
  show wpAny _ _ (Builtin.Dict.dictSlotArgs "__eq__" ⟨[.ref a, .ref b], []⟩ >>= _) _ _ s
  refine wpAny_bind ?_
  unfold Builtin.Dict.dictSlotArgs
  refine wpAny_bind (wpAny_notOrdered_dict da.typeIs ?_)
  show wpAny _ _ (pure (Value.ref a, Value.ref b)) _ _ s
  refine wpAny_pure ?_
  refine wpAny_bind (wpAny_isInstance (T := "dict") db.typeIs PySem.F.sub_dict_dict ?_)
  simp only [Bool.not_true, Bool.false_eq_true, if_false]
  refine wpAny_bind (wpAny_pure (wpAny_bind (wpAny_pure ?_)))
  refine wpAny_bind (hs _ _ ?_)
  refine wpAny_pure ⟨_, rfl, ?_, ?_⟩
  · exact fun x => nomatch x
  · simpa using h
end
/-! sizes differ -/
section
variable {prog : Program} {w : World} {K : Type} [DecidableEq K] {knd : HeapKind prog w K} {A : Around} {E : Value → Shared → Prop} {s : Shared}
theorem same_pairsN {nm : String} {a b : Addr} {xs ys : List (K × Addr × Value)} {Q : Bool → Shared → Prop} (ha : (a == sysModules) = false) (hb : (b == sysModules) = false)
    (da : s.heap.DictOfH knd a xs) (db : s.heap.DictOfH knd b ys) (hl : xs.length ≠ ys.length) (h : Q false s) :
    wpAny (model prog w) A (Builtin.Dict.samePairs nm a b) Q E s := by
  obtain ⟨oa, es, ep, hoa, _, hda, hea, hia, hna⟩ := da
  obtain ⟨ob, es', ep', hob, _, hdb, heb, hib, hnb⟩ := db
  have hla : es.size = xs.length := size_of_entries hea
  have hlb : es'.size = ys.length := size_of_entries heb
  unfold Builtin.Dict.samePairs Builtin.Dict.showsAll
  rw [if_neg (show ¬ (a == sysModules) = true by rw [ha]; exact Bool.false_ne_true), if_neg (show ¬ (b == sysModules) = true by rw [hb]; exact Bool.false_ne_true)]
  refine wpAny_bind (wpAny_pure (wpAny_bind (wpAny_pure ?_)))
  refine wpAny_bind (wpAny_dictEntries hoa hda ?_)
  dsimp only
  refine wpAny_bind (wpAny_dictEntries hob hdb ?_)
  rw [if_pos (by simp; omega)]
  exact wpAny_bind (wpAny_rule (wpAny_pure h))
end
/-! == of two tables -/
/-- the answer at an entry: found with the same int -/
def rXEqB (P : Program) (w : World) (K : PySem.W.Frag) : R2 := fun x y H Q => ∃ a b es fs, x = .ref a ∧ y = .ref b ∧ Rd H a (DXO P w a es) ∧ Rd H b (DXO P w b fs) ∧ KeysAt K H es ∧ KeysAt K H fs ∧
  (∀ e ∈ es, ∃ i, e.2.2 = .int i) ∧ (∀ e ∈ fs, ∃ i, e.2.2 = .int i) ∧ Q (.bl (decide (es.length = fs.length) && es.all fun e => decide ((getM fs e.1).map (·.2) = some e.2.2))) H
def ansX (fs : List DEnt) : List Key × Addr × Value → Bool := fun x => match x.2.2 with
  | .int i _ => decide ((getM fs x.1).map (·.2) = some (.int i))
  | _ => false
theorem rc_xeqB {X : Cx} {A : Around} (hu : A.units + 64 < cLine) {pins : List (Addr × Obj)} {s : Shared} {σ : L2.St} {H : Hp} {a b : Addr} {es fs : List DEnt} {E : Value → Shared → Prop} {Q : Value → Shared → Prop} (I : Inv X pins σ H s)
    (ga : Rd H a (DXO X.prog X.w a es)) (gb : Rd H b (DXO X.prog X.w b fs)) (ka : KeysAt X.K H es) (kb : KeysAt X.K H fs) (ie : ∀ e ∈ es, ∃ i, e.2.2 = .int i) (jf : ∀ e ∈ fs, ∃ i, e.2.2 = .int i)
    (q : Q (.bool (decide (es.length = fs.length) && es.all fun e => decide ((getM fs e.1).map (·.2) = some e.2.2))) s) : wpAny (model X.prog X.w) A (richCompare .Eq (.ref a) (.ref b)) Q E s := by
  obtain ⟨z, hd, xs, rel, dd⟩ := dx_rd I.hok I.kIn ga ka
  obtain ⟨z', hd', ys, rel', dd'⟩ := dx_rd I.hok I.kIn gb kb
  have nd : (ys.map (·.1)).Nodup := let ⟨_, _, _, _, _, _, _, _, n⟩ := dd'; n
  have l1 : es.length = xs.length := Paired.length rel
  have l2 : fs.length = ys.length := Paired.length rel'
  by_cases hl : es.length = fs.length
  · rw [decide_eq_true hl, Bool.true_and] at q
    -- an entry's answer, by the entry of es
    have at_es : ∀ (i : Nat) k p v, xs[i]? = some (k, p, v) → ∃ e, es[i]? = some e ∧ e.1 = k ∧ e.2.1 = p ∧ RelV e.2.2 v := fun i k p v hx => by
      have hlt : i < es.length := by rw [l1]; exact (List.getElem?_eq_some_iff.mp hx).1
      obtain ⟨b', hb', q1, q2, q3⟩ := pget2 rel (List.getElem?_eq_getElem hlt)
      rw [hx] at hb'
      cases hb'
      exact ⟨_, List.getElem?_eq_getElem hlt, q1, q2, q3⟩
    have val : ∀ k, RelO ((getM fs k).map (·.2)) ((atKey ys k).map (·.2)) := fun k => rel'.val k
    have hans : xs.all (ansX fs) = es.all fun e => decide ((getM fs e.1).map (·.2) = some e.2.2) := by
      clear at_es val nd l1 hl dd dd' q rel' z ga ka
      induction rel with
      | nil => rfl
      | @cons e x es xs h t ih =>
        rw [List.all_cons, List.all_cons, ih fun e he => ie e (List.mem_cons_of_mem _ he)]
        congr 1
        obtain ⟨i, ei⟩ := ie e (List.mem_cons_self ..)
        obtain ⟨h1, h2, h3⟩ := h
        rw [ei] at h3
        obtain ⟨t, ev⟩ := (show ∃ t, x.2.2 = Value.int i t from h3)
        unfold ansX
        rw [ev, ← h1, ei]
    rw [← hans] at q
    refine rc_dictB (tupleKind_room_in1 (A := A) (by omega)) hd hd' dd dd' (by omega) (fun nm Q h => same_pairsB (ans := ansX fs) (tupleKind_room_in1 (A := A) (by omega)) hd hd' dd dd' (by omega) (fun i k p v hx => ?_) h) q
    obtain ⟨e, he, h1, h2, h3⟩ := at_es i k p v hx
    obtain ⟨n, en⟩ := ie e (List.mem_of_getElem? he)
    rw [en] at h3
    obtain ⟨t, rfl⟩ := (show ∃ t, v = Value.int n t from h3)
    refine ⟨fun hn => ?_, fun j q hj => ?_⟩
    · have ha0 : atKey ys k = none := by
        cases hk : atKey ys k with
        | none => rfl
        | some q0 => obtain ⟨j, hj⟩ := at_some hk; exact absurd hj (hn j q0)
      have := val k
      rw [ha0] at this
      show decide _ = false
      cases hg : (getM fs k).map (·.2) with
      | none => rw [decide_eq_false (fun z => by cases z)]
      | some u => rw [hg] at this; exact absurd this (by simp [RelO])
    · have ha1 := at_nodup nd hj
      have := val k
      rw [ha1] at this
      show PySem.SeqAt.EqP _ _ _ _ _ _ (decide _)
      cases hg : (getM fs k).map (·.2) with
      | none => rw [hg] at this; exact absurd this (by simp [RelO])
      | some u =>
        rw [hg] at this
        have ru : L2.RelV u q.2 := this
        obtain ⟨g, hg1, hg2⟩ := Option.map_eq_some_iff.mp hg
        have hgm : ∃ m, u = .int m := by
          rw [← hg2]
          have hmem : ∃ e ∈ fs, e.2 = g := by
            unfold getM at hg1
            obtain ⟨e, he, e1⟩ := Option.map_eq_some_iff.mp hg1
            exact ⟨e, List.mem_of_find?_eq_some he, e1⟩
          obtain ⟨e, he, e1⟩ := hmem
          obtain ⟨i, ei⟩ := jf e he
          exact ⟨i, by rw [← e1]; exact ei⟩
        obtain ⟨m, rfl⟩ := hgm
        obtain ⟨t', eq⟩ := (show ∃ t, q.2 = Value.int m t from ru)
        rw [eq]
        have er : (n == m) = decide (some (V.int m) = some (V.int n)) := by
          rw [Bool.eq_iff_iff, beq_iff_eq, decide_eq_true_iff]
          constructor
          · intro h; rw [h]
          · intro h; injection h with h; injection h with h; exact h.symm
        rw [← er]
        exact PySem.SeqAt.EqAt.eqP (PySem.SeqAt.EqAt.int_int n t m t')
  · rw [decide_eq_false hl, Bool.false_and] at q
    exact rc_dictB (tupleKind_room_in1 (A := A) (by omega)) hd hd' dd dd' (by omega) (fun nm Q h => same_pairsN hd hd' dd dd' (by omega) h) q
theorem op_xeqB {X : Cx} (hu : X.A.units + 64 < cLine) : OpR X (compareOp .Eq) (rXEqB X.prog X.w X.K) := by
  intro pins s σ H x y v u Q I rx ry ⟨a, b, es, fs, ex, ey, ga, gb, ka, kb, ie, jf, q⟩
  subst ex ey
  obtain rfl : v = Value.ref a := rx
  obtain rfl : u = Value.ref b := ry
  show wpAny (model X.prog X.w) X.A (richCompare .Eq (.ref a) (.ref b)) _ _ _
  exact rc_xeqB hu I ga gb ka kb ie jf ⟨.bl _, H, I, rfl, q⟩
theorem k_xeqB {X : Cx} {P : Program} {w : World} {K : PySem.W.Frag} (hP : X.prog = P) (hw : X.w = w) (hK : X.K = K) (hu : X.A.units + 64 < cLine) : OpR X (compareOp .Eq) (rXEqB P w K) := by subst hP hw hK; exact op_xeqB hu
/-- the entries of two tables, one found in the other -/
def eqTb (A B : PT) : Bool := decide (A.length = B.length) && A.all fun e => decide (getM B e.1 = some e.2)
theorem alx_get {K : PySem.W.Frag} {H : Hp} {m : PT} {es : List DEnt} (h : AlX K H (mI m) es) (k : List Int) : (getM es (ik k)).map (·.2) = (getM m k).map V.int := by
  have v := h.val k
  rw [show getM (mI m) k = (getM m k).map rInt from getM_map rInt m k] at v
  cases hm : getM m k with
  | none =>
    rw [hm] at v
    cases he : getM es (ik k) with
    | none => rfl
    | some g => rw [he] at v; exact absurd v (by simp)
  | some c =>
    rw [hm] at v
    cases he : getM es (ik k) with
    | none => rw [he] at v; exact absurd v (by simp)
    | some g =>
      rw [he] at v
      rcases v with ⟨v1, _⟩ | ⟨r, b, z, v1, v2, v3⟩
      · cases v1
      · cases v1
        cases v2
        cases v3
        rfl
theorem alx_ints {K : PySem.W.Frag} {H : Hp} {m : PT} {es : List DEnt} (h : AlX K H (mI m) es) : (∀ e ∈ es, ∃ i, e.2.2 = .int i) ∧ (es.all fun e => decide ((getM es e.1).isSome)) = es.all (fun e => decide ((getM es e.1).isSome)) := by
  refine ⟨fun e he => ?_, rfl⟩
  obtain ⟨j, hj⟩ := List.mem_iff_getElem?.mp he
  have hlt : j < (mI m).length := by rw [← h.length]; exact (List.getElem?_eq_some_iff.mp hj).1
  obtain ⟨b', hb', q1, q2, q3⟩ := pget2 h (List.getElem?_eq_getElem hlt)
  rw [hj] at hb'
  cases hb'
  rw [List.getElem_map] at q3
  exact ⟨_, q3⟩
theorem alx_all {K : PySem.W.Frag} {H : Hp} {A B : PT} {es fs : List DEnt} (h : AlX K H (mI A) es) (g : AlX K H (mI B) fs) : (es.all fun e => decide ((getM fs e.1).map (·.2) = some e.2.2)) = A.all fun e => decide (getM B e.1 = some e.2) := by
  have gen : ∀ (A : PT) (es : List DEnt), AlX K H (mI A) es → (es.all fun e => decide ((getM fs e.1).map (·.2) = some e.2.2)) = A.all fun e => decide (getM B e.1 = some e.2) := by
    intro A
    induction A with
    | nil => intro es h; cases h; rfl
    | cons a A ih =>
      intro es h
      cases h with
      | @cons _ e _ es h t =>
        rw [List.all_cons, List.all_cons, ih es t]
        congr 1
        obtain ⟨h1, h2, h3⟩ := h
        have h3' : e.2.2 = .int a.2 := h3
        rw [h3', ← h1, alx_get g, decide_eq_decide]
        show (getM B a.1).map V.int = some (V.int a.2) ↔ _
        cases getM B a.1 with
        | none => simp
        | some c =>
          constructor
          · intro h
            injection h with h
            injection h with h
            rw [h]
          · intro h
            injection h with h
            rw [h]
            rfl
  exact gen A es h
theorem rdct_b {X : Cx} {A : Around} (hu : A.units + 64 < cLine) {pins : List (Addr × Obj)} {s : Shared} {σ : L2.St} {H : Hp} {S T : PT} {x y : V} {u v : Value} {E : Value → Shared → Prop} {Q : Value → Shared → Prop} (I : Inv X pins σ H s) (rx : L2.RelV x u) (ry : L2.RelV y v)
    (hx : (rDct X.prog X.w X.K (mI S)).p x H) (hy : (rDct X.prog X.w X.K (mI T)).p y H) (q : Q (.bool (eqTb S T)) s) : (∃ a b, u = .ref a ∧ v = .ref b) ∧ wpAny (model X.prog X.w) A (richCompare .Eq u v) Q E s := by
  obtain ⟨a, o, es, rfl, ha, hal⟩ := hx
  obtain ⟨b, o', fs, rfl, hb, hal'⟩ := hy
  obtain rfl : u = Value.ref a := rx
  obtain rfl : v = Value.ref b := ry
  refine ⟨⟨a, b, rfl, rfl⟩, rc_xeqB hu I (.inr ⟨o, ha⟩) (.inr ⟨o', hb⟩) hal.keys hal'.keys (alx_ints hal).1 (alx_ints hal').1 ?_⟩
  have e1 : es.length = S.length := by rw [hal.length, List.length_map]
  have e2 : fs.length = T.length := by rw [hal'.length, List.length_map]
  rw [alx_all hal hal', e1, e2]
  exact q
theorem ot_xeqB {B : Bd} {k : Rel → Prop} {S T : PT} (q : k (rBl (eqTb S T))) : OpT B (rXEqB B.P B.w B.K) (rDct B.P B.w B.K (mI S)) (rDct B.P B.w B.K (mI T)) k := fun H x y _ ⟨a, o, es, ex, ha, hal⟩ ⟨b, o', fs, ey, hb, hal'⟩ Q hQ => by
  subst ex ey
  refine ⟨a, b, es, fs, rfl, rfl, .inr ⟨o, ha⟩, .inr ⟨o', hb⟩, hal.keys, hal'.keys, (alx_ints hal).1, (alx_ints hal').1, ?_⟩
  have e1 : es.length = S.length := by rw [hal.length, List.length_map]
  have e2 : fs.length = T.length := by rw [hal'.length, List.length_map]
  rw [alx_all hal hal', e1, e2]
  exact hQ _ _ H q rfl (Same.refl H)
end BX
namespace BX
open PySem PySem.Spec PyProof.Rows L2 PySem.SeqAt
open AutoSeq1 (wpAny_loadPart')
open MeetsSeq MeetsSeq2 MeetsSeq3 SeqRoads2
/-! ### != of two lists whose items are equal, one by one -/
theorem ne_loopP {prog : Program} {w : World} (l b : Addr) (us vs : Array Value) (n n2 : Nat) (dd dd2 : Option Addr) (sl sl2 : Array (Option Value)) (hsz : us.size = vs.size) (k : Nat) :
    ∀ i : Nat, us.size - i = k → MeetsIn prog w (Builtin.«list.__eq__.loop» ⟨[.ref l, .ref b, rawInt i, rawInt 3], []⟩)
      (fun A R s => s.heap.get? l = some { cls := .type "list", dict := dd, data := .seq us n, slots := sl } ∧ s.heap.get? b = some { cls := .type "list", dict := dd2, data := .seq vs n2, slots := sl2 } ∧
        (∀ j (h1 : j < us.size) (h2 : j < vs.size), EqP prog w A.in1 s us[j] vs[j] true) ∧ R (.ok (.ret (.bool false))) s) := by
  induction k with
  | zero =>
    intro i hk A R s ⟨hl, hb, he, h⟩
    obtain ⟨hp, g, d, tk, os⟩ := s
    wp_walk using wpAny_loadPart' hl, wpAny_loadPart' hb
    rw [show us[((i : Nat) : Int).toNat]? = none by simp; omega, show vs[((i : Nat) : Int).toNat]? = none by simp; omega]
    wp_walk using wpAny_loadPart' hl, wpAny_loadPart' hb
    show R (.ok (.ret (.bool (us.size != vs.size)))) _
    rw [hsz]
    simpa using h
  | succ k ih =>
    intro i hk A R s ⟨hl, hb, he, h⟩
    obtain ⟨hp, g, d, tk, os⟩ := s
    wp_walk using wpAny_loadPart' hl, wpAny_loadPart' hb
    have q1 : i < us.size := by omega
    have q2 : i < vs.size := by omega
    rw [show us[((i : Nat) : Int).toNat]? = some us[i] by simp [q1], show vs[((i : Nat) : Int).toNat]? = some vs[i] by simp [q2]]
    refine wpAny_bind (he i q1 q2 _ _ ?_)
    wp_walk
    rw [show ((i : Int) + 1) = ((i + 1 : Nat) : Int) by push_cast; rfl]
    exact ⟨plainId_quiet plain_eq_loop _, codeAny_builtin entry_eq_loop (by
      rw [Around.under_plainId plain_eq_loop _]
      exact ih (i + 1) (by omega) A R _ ⟨hl, hb, he, h⟩)⟩
theorem rc_neP {prog : Program} {w : World} {A : Around} {s : Shared} {l b : Addr} {us vs : Array Value} (hl : s.heap.IsList l us) (hb : s.heap.IsList b vs) (hsz : us.size = vs.size) (hu : A.units < cLine)
    (he : ∀ j (h1 : j < us.size) (h2 : j < vs.size), EqP prog w A.in1 s us[j] vs[j] true) (E Q : Value → Shared → Prop) (h : Q (.bool false) s) : wpAny (model prog w) A (richCompare .NotEq (.ref l) (.ref b)) Q E s := by
  obtain ⟨⟨cls, dd, data, sl⟩, ho, hc, n, hd⟩ := id hl
  obtain ⟨⟨cls2, dd2, data2, sl2⟩, ho2, hc2, n2, hd2⟩ := id hb
  simp only at hc hd hc2 hd2
  subst hc hd hc2 hd2
  have ta : s.TypeIs (.ref l) "list" := ⟨_, ho, rfl⟩
  have tb : s.TypeIs (.ref b) "list" := ⟨_, ho2, rfl⟩
  have ne : MeetsIn prog w (Builtin.«list.__ne__» ⟨[.ref l, .ref b], []⟩) (fun A R s => s.heap.get? l = some { cls := .type "list", dict := dd, data := .seq us n, slots := sl } ∧ s.heap.get? b = some { cls := .type "list", dict := dd2, data := .seq vs n2, slots := sl2 } ∧
      (∀ j (h1 : j < us.size) (h2 : j < vs.size), EqP prog w A.in1 s us[j] vs[j] true) ∧ R (.ok (.ret (.bool false))) s) := by
    intro A R s ⟨hl, hb, he, h⟩
    obtain ⟨hp, g, d, tk, os⟩ := s
    have f3 := AutoSeq1.sub_list_list
    have hne : ¬ (us.size != vs.size) = true := by simp [hsz]
    wp_walk using wpAny_loadPart' hl, wpAny_loadPart' hb
    exact ⟨plainId_quiet plain_eq_loop _, codeAny_builtin entry_eq_loop (by
      rw [Around.under_plainId plain_eq_loop _]
      exact ne_loopP l b us vs n n2 dd dd2 sl sl2 hsz _ 0 rfl A R _ ⟨hl, hb, he, h⟩)⟩
  exact wpAny_richCompare_same_room (op := .NotEq) ta tb F.slot_list_ne (call_meetsIn F.slot_list_ne ta F.entry_list_ne (F.args_list_ne_2 _ _) ne ⟨ho, ho2, he, (fun x => nomatch x), h⟩) hu
/-! two things of two relations are equal -/
def EPR (X : Cx) (n : Nat) (r1 r2 : Rel) : Prop := ∀ (A : Around), A.units + 64 + n < cLine → ∀ (pins : List (Addr × Obj)) (s : Shared) (σ : L2.St) (H : Hp) (x y : V) (u v : Value), Inv X pins σ H s → L2.RelV x u → L2.RelV y v → r1.p x H → r2.p y H → EqP X.prog X.w A s u v true
theorem epr_str {X : Cx} (z : Str) : EPR X 0 (rStr z) (rStr z) := fun A hu pins s σ H x y u v I rx ry h1 h2 => by
  cases h1
  cases h2
  exact (eqAt_same rx ry rfl).eqP
theorem epr_dct {X : Cx} {S T : PT} (h : eqTb S T = true) : EPR X 0 (rDct X.prog X.w X.K (mI S)) (rDct X.prog X.w X.K (mI T)) := fun A hu pins s σ H x y u v I rx ry h1 h2 => by
  obtain ⟨a, o, es, rfl, ha, hal⟩ := id h1
  obtain ⟨b, o', fs, rfl, hb, hal'⟩ := id h2
  cases (show u = Value.ref a from rx)
  cases (show v = Value.ref b from ry)
  by_cases e : a = b
  · subst e
    exact (SeqAt.EqAt.same _).eqP
  · refine eqP_refs e fun E Q q => ?_
    exact (rdct_b (A := A) (by omega) I rx ry h1 h2 (by rw [h]; exact q)).2
theorem epr_items {X : Cx} {n : Nat} {rs ss : List Rel} (h : Paired (EPR X n) rs ss) {A : Around} (hu : A.units + 64 + n < cLine) {pins : List (Addr × Obj)} {s : Shared} {σ : L2.St} {H : Hp} (I : Inv X pins σ H s) :
    ∀ {xs ys : List V} {us vs : List Value}, Al H rs xs → Al H ss ys → Vals xs us → Vals ys vs → ∀ j (h1 : j < us.length) (h2 : j < vs.length), EqP X.prog X.w A s us[j] vs[j] true := by
  induction h with
  | nil =>
    intro xs ys us vs a1 a2 r1 r2 j h1
    cases a1
    cases r1
    exact absurd h1 (Nat.not_lt_zero j)
  | cons h t ih =>
    intro xs ys us vs a1 a2 r1 r2 j h1 h2
    cases a1 with
    | cons a1 b1 =>
      cases a2 with
      | cons a2 b2 =>
        cases r1 with
        | cons r1 s1 =>
          cases r2 with
          | cons r2 s2 =>
            cases j with
            | zero => exact h A hu pins s σ H _ _ _ _ I r1 r2 a1 a2
            | succ j => exact ih b1 b2 s1 s2 j (Nat.lt_of_succ_lt_succ h1) (Nat.lt_of_succ_lt_succ h2)
theorem epr_lists {X : Cx} {n : Nat} {rs ss : List Rel} (h : Paired (EPR X n) rs ss) {A : Around} (hu : A.units + 65 + n < cLine) {pins : List (Addr × Obj)} {s : Shared} {σ : L2.St} {H : Hp} {x y : V} {u v : Value} (I : Inv X pins σ H s) (rx : L2.RelV x u) (ry : L2.RelV y v) (h1 : (rLst rs).p x H) (h2 : (rLst ss).p y H) :
    ∃ (a b : Addr) (us vs : List Value), u = .ref a ∧ v = .ref b ∧ s.heap.IsList a us.toArray ∧ s.heap.IsList b vs.toArray ∧ us.toArray.size = vs.toArray.size ∧ ∀ j (h1 : j < us.toArray.size) (h2 : j < vs.toArray.size), EqP X.prog X.w A.in1 s us.toArray[j] vs.toArray[j] true := by
  obtain ⟨a, o, xs, rfl, ha, hal⟩ := h1
  obtain ⟨b, o', ys, rfl, hb, hal'⟩ := h2
  cases (show u = Value.ref a from rx)
  cases (show v = Value.ref b from ry)
  obtain ⟨us, r1, p1, _⟩ := I.list (.inl (.inr ⟨o, ha⟩))
  obtain ⟨vs, r2, p2, _⟩ := I.list (.inl (.inr ⟨o', hb⟩))
  refine ⟨a, b, us, vs, rfl, rfl, p1.isList, p2.isList, ?_, fun j h1 h2 => ?_⟩
  · rw [List.size_toArray, List.size_toArray, ← r1.length, ← r2.length, ← Paired.length hal, ← Paired.length hal', Paired.length h]
  · have := epr_items h (A := A.in1) (by show A.units + 1 + 64 + n < cLine; omega) I hal hal' r1 r2 j (by simpa using h1) (by simpa using h2)
    simpa using this
theorem epr_lst {X : Cx} {n : Nat} {rs ss : List Rel} (h : Paired (EPR X n) rs ss) : EPR X (n + 1) (rLst rs) (rLst ss) := fun A hu pins s σ H x y u v I rx ry h1 h2 => by
  obtain ⟨a, b, us, vs, rfl, rfl, p1, p2, hsz, hh⟩ := epr_lists h (A := A) (by omega) I rx ry h1 h2
  by_cases e : a = b
  · subst e
    exact (SeqAt.EqAt.same _).eqP
  · refine eqP_refs e fun E Q q => ?_
    refine rcP_lists (e := fun _ => true) p1 p2 hsz (by omega) hh E Q ?_
    rw [show ((List.range us.toArray.size).all fun _ => true) = true from List.all_eq_true.mpr fun _ _ => rfl]
    exact q
def rEqLL (rs ss : List Rel) : R2 := fun x y H Q => (rLst rs).p x H ∧ (rLst ss).p y H ∧ Q (.bl true) H
def rNeLL (rs ss : List Rel) : R2 := fun x y H Q => (rLst rs).p x H ∧ (rLst ss).p y H ∧ Q (.bl false) H
theorem op_eqLL {X : Cx} {n : Nat} {rs ss : List Rel} (h : Paired (EPR X n) rs ss) (hu : X.A.units + 65 + n < cLine) : OpR X (compareOp .Eq) (rEqLL rs ss) := by
  intro pins s σ H x y u v Q I rx ry ⟨h1, h2, q⟩
  obtain ⟨a, b, us, vs, rfl, rfl, p1, p2, hsz, hh⟩ := epr_lists h (A := X.A) hu I rx ry h1 h2
  show wpAny (model X.prog X.w) X.A (richCompare .Eq (.ref a) (.ref b)) _ _ _
  refine rcP_lists (e := fun _ => true) p1 p2 hsz (by omega) hh _ _ ?_
  rw [show ((List.range us.toArray.size).all fun _ => true) = true from List.all_eq_true.mpr fun _ _ => rfl]
  exact ⟨.bl true, H, I, rfl, q⟩
theorem op_neLL {X : Cx} {n : Nat} {rs ss : List Rel} (h : Paired (EPR X n) rs ss) (hu : X.A.units + 65 + n < cLine) : OpR X (compareOp .NotEq) (rNeLL rs ss) := by
  intro pins s σ H x y u v Q I rx ry ⟨h1, h2, q⟩
  obtain ⟨a, b, us, vs, rfl, rfl, p1, p2, hsz, hh⟩ := epr_lists h (A := X.A) hu I rx ry h1 h2
  show wpAny (model X.prog X.w) X.A (richCompare .NotEq (.ref a) (.ref b)) _ _ _
  exact rc_neP p1 p2 hsz (by omega) hh _ _ ⟨.bl false, H, I, rfl, q⟩
theorem ot_eqLL {B : Bd} {k : Rel → Prop} {rs ss : List Rel} (q : k (rBl true)) : OpT B (rEqLL rs ss) (rLst rs) (rLst ss) k := fun H x y _ h1 h2 Q hQ => ⟨h1, h2, hQ _ _ H q rfl (Same.refl H)⟩
theorem ot_neLL {B : Bd} {k : Rel → Prop} {rs ss : List Rel} (q : k (rBl false)) : OpT B (rNeLL rs ss) (rLst rs) (rLst ss) k := fun H x y _ h1 h2 Q hQ => ⟨h1, h2, hQ _ _ H q rfl (Same.refl H)⟩
end BX
set_option Elab.async false
set_option linter.all false
set_option maxRecDepth 100000
set_option maxHeartbeats 1000000
/-! BXv: == of instances by their own def, whatever it tells; list(range(n)); two items of a list exchanged. -/
namespace BX
open PySem PySem.Spec PyProof.Rows L2
/-! ### == of an instance -/
theorem backV {P : Value → Shared → Prop} {z : V} {v : Value} {s' : Shared} (r : RelV z v) (h : P v s') : PySem.W.CmpBack P v s' := by
  cases z with
  | non => cases (show v = Value.none from r); exact h
  | bl b => cases (show v = Value.bool b from r); exact h
  | int i => obtain ⟨t, e⟩ := (show ∃ t, v = Value.int i t from r); cases e; exact h
  | str x => obtain ⟨t, e⟩ := (show ∃ t, v = Value.str x t from r); cases e; exact h
  | byt x => obtain ⟨t, e⟩ := (show ∃ t, v = Value.bytes x t from r); cases e; exact h
  | flt x => obtain ⟨t, e⟩ := (show ∃ t, v = Value.float x t from r); cases e; exact h
  | ref a => cases (show v = Value.ref a from r); exact h
  | ty n => cases (show v = Value.type n from r); exact h
/-- what the other one is: of the same class, or a tuple -/
def OthB (K : PySem.W.Frag) (C : Addr) (H : Hp) (y : V) : Prop := (∃ b dy gs, y = .ref b ∧ H b = some (.ins C dy gs)) ∨ ∃ b xs, y = .ref b ∧ SqT K H b xs ∧ PySem.W.notFirst K C (.type "tuple") = true
def rOwnB (K : PySem.W.Frag) (C : Addr) (sp : Sp) (E : XK) : R2 := fun x y H Q => ∃ a dx fs, x = .ref a ∧ H a = some (.ins C dx fs) ∧ OthB K C H y ∧ sp [x, y] H Q E
theorem op_ownB {X : Cx} {n : Nat} {C f : Addr} {fd : FuncData} {ps : List Str} {sp : Sp} {E : XK} {CX : CXT} (F : FnOk X.prog X.w X.K X.mg X.base CX n f fd ps sp) (hs : PySem.W.findIn X.K (.ref C) "__eq__" = some (some (.ref f))) (hf : PySem.W.isFn X.K (.ref f) = true) (hb : Binds X.K fd ps [])
    (hx : Passes CX X E) (hr : Room n X.A) : OpR X (compareOp .Eq) (rOwnB X.K C sp E) := by
  intro pins s σ H x y v u Q I rx ry ⟨a, dx, fs, ex, ha, ho, hsp⟩
  subst ex
  obtain rfl : v = Value.ref a := rx
  obtain ⟨mA, J, _⟩ := ins_get I.hok ha
  obtain ⟨od, J, _⟩ := J.look
  obtain ⟨m, hF⟩ := I.fr
  have call : wpAny (model X.prog X.w) X.A (PySem.call (.ref f) [.ref a, u]) (PySem.W.CmpBack (EP X pins σ Q)) X.xe s := by
    have hl := F.len _ _ _ _ hsp
    refine wpAny_call (codeAny_mono (F.run X.A X.stack s H ⟨[.ref a, u], []⟩ [.ref a, u] [.ref a, y] Q E hr I.env0 (by
      have := hb s [.ref a, u] I.kIn (by simpa using hl)
      simpa using this) (.cons rfl (.cons ry .nil)) hsp) fun r s' hq => ?_)
    cases r with
    | error e => exact hx pins σ H s e s' I hq
    | ok fl =>
      cases fl with
      | ret w =>
        obtain ⟨z, H', I', rz, qz⟩ := I.after hq
        exact backV rz ⟨z, H', I', rz, qz⟩
      | next => exact False.elim hq
      | brk => exact False.elim hq
      | cont => exact False.elim hq
  show wpAny (model X.prog X.w) X.A (richCompare .Eq (.ref a) u) _ _ _
  rcases ho with ⟨b, dy, gs, ey, hb'⟩ | ⟨b, xs, ey, hq, hn⟩
  · subst ey
    obtain rfl : u = Value.ref b := ry
    obtain ⟨mB, J', _⟩ := ins_get I.hok hb'
    obtain ⟨od', J', _⟩ := J'.look
    exact PySem.W.cmp_K (op := .Eq) (tb := .ref C) hr.units0 hF I.ok.mod.kin J J'.type (by simp [PySem.W.notFirst]) hs hf call
  · subst ey
    obtain rfl : u = Value.ref b := ry
    obtain ⟨its, rv, ⟨o, hob, hc, n', hd⟩, _⟩ := I.tuple hq
    refine PySem.W.cmp_K (op := .Eq) (tb := .type "tuple") hr.units0 hF I.ok.mod.kin J ?_ hn hs hf call
    exact hc ▸ (PySem.W.Looks.ld hob).andThen .now
theorem ot_ownB {B : Bd} {k : Rel → Prop} {C : Addr} {fs : List (Str × Rel)} {rb : Rel} {S : Spc} {E : XK} (hb : (∃ gs, rb = rIns C gs) ∨ (∃ rs, rb = rTup B.K rs ∧ PySem.W.notFirst B.K C (.type "tuple") = true)) (h : S [rIns C fs, rb] k) :
    OpT B (rOwnB B.K C (spOf S) E) (rIns C fs) rb k := fun H x y ex h1 h2 Q hQ => by
  obtain ⟨a, dx, xs, rfl, ha, hp⟩ := id h1
  refine ⟨a, dx, xs, rfl, ha, ?_, _, k, .cons h1 (.cons h2 .nil), h, fun r v H' q p sm => hQ r v H' q p sm⟩
  rcases hb with ⟨gs, rfl⟩ | ⟨rs, rfl, hn⟩
  · obtain ⟨b, dy, ys, rfl, hb, _⟩ := h2
    exact .inl ⟨b, dy, ys, rfl, hb⟩
  · obtain ⟨b, ys, rfl, hs, _⟩ := h2
    exact .inr ⟨b, ys, rfl, hs, hn⟩
theorem k_ownB {X : Cx} {K : PySem.W.Frag} {n : Nat} {C f : Addr} {fd : FuncData} {ps : List Str} {sp : Sp} {P : Program} {w : World} {mg : Str → Option Value} {base : Heap} (hK : X.K = K) (hP : X.prog = P) (hw : X.w = w) (hm : X.mg = mg) (hB : X.base = base) (c : Callee P w K mg base f fd ps n sp)
    (hs : PySem.W.findIn K (.ref C) "__eq__" = some (some (.ref f))) (hf : PySem.W.isFn K (.ref f) = true) (hx : Passes CX0 X E0) (hr : Room n X.A) : OpR X (compareOp .Eq) (rOwnB K C sp E0) := by
  subst hK hP hw hm hB
  exact op_ownB c.F hs hf c.b hx hr
/-! ### list(range(n)), two items exchanged -/
theorem wl_listRg {B : Bd} {Γ : Ctx} {te : TE} {kl : List Rel → Prop} (h : WpE B Γ te fun r => ∃ n : Nat, r = rInt (n : Int) ∧ n ≤ 16777216 ∧ kl ((List.range n).map fun i : Nat => rInt (i : Int))) : WpL B Γ (tLstRg (tRg1 te)) kl := fun σ H E Q hQ =>
  h σ H E _ fun r v H1 ⟨n, er, hn, hk⟩ p e => by
    subst er
    refine ⟨n, p, RgOk.of_le (Int.le_refl 0) (by omega) (by omega) (by omega), fun q hq => hQ _ q _ _ hk (Same.free e hq) (Same.trans e (Same.new hq)) upd_same ?_⟩
    have e1 : rgV 0 (n : Int) = ((List.range n).map fun i : Nat => V.int (i : Int)) := by
      unfold rgV
      rw [show ((n : Int) - 0).toNat = n by omega]
      refine List.map_congr_left fun i _ => ?_
      rw [Int.zero_add]
    rw [e1]
    have gen : ∀ (L : List Nat) (H : Hp), Al H (L.map fun i : Nat => rInt (i : Int)) (L.map fun i : Nat => V.int (i : Int)) := by
      intro L H
      induction L with
      | nil => exact .nil
      | cons i L ih => exact .cons rfl ih
    exact gen _ _
theorem al_set {H : Hp} : ∀ {rs : List Rel} {vs : List V} (j : Nat) {r : Rel} {v : V}, Al H rs vs → r.p v H → Al H (rs.set j r) (vs.set j v)
  | [], [], _, _, _, .nil, _ => .nil
  | _ :: _, _ :: _, 0, _, _, .cons _ t, p => .cons p t
  | _ :: _, _ :: _, j + 1, _, _, .cons h t, p => .cons h (al_set j t p)
/-- xs[a], xs[b] = c, d: slots that hold ints -/
theorem ws_swapL {B : Bd} {Γ : Ctx} {D : Ends} {i a b c d x y : Nat} {u v : Int} {rs : List Rel} {tz : TS} (hi : Γ[i]? = some (.ml rs)) (ha : Γ[a]? = some (.im (rInt (x : Int)))) (hb : Γ[b]? = some (.im (rInt (y : Int)))) (hc : Γ[c]? = some (.im (rInt u))) (hd : Γ[d]? = some (.im (rInt v)))
    (hx : x < rs.length) (hy : y < rs.length) (h : WpS B D (Γ.set i (.ml ((rs.set x (rInt u)).set y (rInt v)))) tz) :
    WpS B D Γ (tSeq (tAsg (tTup (tCons (tVar c) (tCons (tVar d) tNil))) (gTup B.K 2 (gCons (gSub (tVar i) (tVar a) rSetL) (gCons (gSub (tVar i) (tVar b) rSetL) gNil)))) tz) := fun σ H E => by
  obtain ⟨_, gc, hc'⟩ := E.im_at hc
  cases hc'
  obtain ⟨_, gd, hd'⟩ := E.im_at hd
  cases hd'
  obtain ⟨_, ga, ha'⟩ := E.im_at ha
  cases ha'
  obtain ⟨_, gb, hb'⟩ := E.im_at hb
  cases hb'
  obtain ⟨ov, h1, l, xs, rfl, h0, hl, hal⟩ := E.ty i _ hi
  have lx : xs.length = rs.length := (Paired.length hal).symm
  refine ⟨_, gc, _, gd, ?_⟩
  refine ⟨Nat.le_of_ble_eq_true rfl, fun p hp => ⟨p, [.int u, .int v], rfl, .inl (.inl upd_same), rfl, ?_⟩⟩
  have hne : l ≠ p := fun z => by rw [z, hp] at hl; cases hl
  have hl1 : (upd H p (.tup [.int u, .int v])) l = some (.lst xs) := by rw [upd_ne hne]; exact hl
  refine ⟨_, _, rfl, _, h1, _, ga, l, xs, (x : Int), x, rfl, rfl, hl1, ?_, ?_⟩
  · unfold ixN
    rw [if_pos (by omega), if_pos (by omega), Int.toNat_natCast]
  refine ⟨_, _, rfl, _, h1, _, gb, l, xs.set x (.int u), (y : Int), y, rfl, rfl, upd_same, ?_, rfl, ?_⟩
  · unfold ixN
    rw [if_pos (by omega), if_pos (by rw [List.length_set]; omega), Int.toNat_natCast]
  rw [upd_upd]
  have E1 : Env B Γ σ (upd H p (.tup [.int u, .int v])) := E.mono (Same.new hp)
  refine h σ _ (E1.chg hi rfl h1 hl1 lst_c h0 ⟨l, _, rfl, h0, upd_same, ?_⟩)
  exact Al.st (Im.upd hl1 lst_c) (Al.st (Same.im (Same.new hp)) (al_set y (al_set x hal rfl) rfl))
end BX
set_option Elab.async false
set_option linter.all false
set_option maxRecDepth 100000
set_option maxHeartbeats 2000000
/-! E1: an own exception class (over one's own base over ValueError) whose `__init__` says super().__init__(x); self.f = x. -/
namespace EX
open PySem PySem.Spec PySem.Calls PyProof.Rows L2 NdefX
/-- what is asked of the class, its code, its cell -/
structure InitC (P : Program) (K : PySem.W.Frag) (C f : Addr) (fld : Str) (cda cc : Addr) : Prop where
  oex : OexC K C
  hno : PySem.W.findIn K (.ref C) fld = some none
  code : ∃ ccl cdd vs ccs file tf, K.lookup cda = some ⟨ccl, cdd, .fields vs, ccs⟩ ∧ vs[2]? = some (.str file tf) ∧ ((P.main.file : Str) == file) = true
  cell : ∃ cl cld csl, K.lookup cc = some ⟨cl, cld, .cell (some (.ref C)), csl⟩
  sup : PySem.W.ks_superIn K C C "__init__" = some (some (.builtin "ValueError.__init__"))
  sub : PySem.W.subIn K (.ref C) (.type "ValueError") = some true
  mro : PySem.W.mroIn K C (.ref C) = some true
  stat : PySem.W.nsIn K cStatics "thirdparty.any" = some none
  top : (P.main.scope.names.lookup ("super" : Str)).isSome = false
/-- the promise of such an `__init__` -/
def spInit (C : Addr) (fld : Str) : Sp := fun vs H Q _ => ∃ (e : Addr) (v : V), vs = [.ref e, v] ∧ H e = some (exo e C none) ∧ ∀ dx, H dx = none → dx ≠ e → Q .non (upd (upd H dx (exd dx [(fld, v)])) e (exo e C (some dx)))
section
variable {X : Cx} {pins : List (Addr × Obj)} {σ : L2.St} {H : Hp} {s : Shared}
theorem ld_self {E : Value → Shared → Prop} {i : Nat} {x : Str} {v : V} {Q : Value → Shared → Prop} (I : Inv X pins σ H s) (hN : X.N[i]? = some x) (hs : σ[i]? = some (some v)) (hl : X.env.kindOf x = some .local)
    (h : ∀ u, RelV v u → Q u s) : wpAny (model X.prog X.w) X.A (loadName X.env x) Q E s := by
  obtain ⟨m, hns, hl2⟩ := I.loc
  obtain ⟨u, r, l⟩ := hl2 i x v hN hs (.inl hl)
  rcases l with ⟨_, hm⟩ | ⟨hk, _⟩
  · exact wpAny_loadName_local I.ok.kind hl hns hm (h u r)
  · rw [hl] at hk
    rcases hk with hk | hk <;> cases hk
theorem ld_sup {E : Value → Shared → Prop} {x : Str} {u : Value} {Q : Value → Shared → Prop} (I : Inv X pins σ H s) (hg : X.env.kindOf x = some .globalImplicit) (hm : X.mg x = none) (hv : bootBuiltins x = some u) (h : Q u s) (hn : x ≠ "__name__" := by decide) :
    wpAny (model X.prog X.w) X.A (loadName X.env x) Q E s := by
  obtain ⟨mb, h1, h2⟩ := I.mod.blt
  exact PySem.W.ks_loadName_global I.ok.kind hg (Calls.loadGlobal_builtin (by rw [I.ok.glob]; exact I.mod.glob.keeps I.bk) hm (by rw [I.ok.blt]; exact h1.keeps I.bk) ((h2 x hn).trans hv) h)
end
section
variable {CX : CXT} {P : Program} {w : World} {K : PySem.W.Frag} {mg : Str → Option Value} {base : Heap} {k : Nat} {f C cda cc : Addr} {name qual x fld : Str} {dV kV doc pm ct oc : Value} {an od : Option Addr}
  {osl : Array (Option Value)} {q1 q2 p0 p1 p2 p3 p4 p5 p6 p7 p8 p9 : Pos}
theorem lk_one {y : Str} {cc c : Addr} (h : List.lookup y [(("__class__" : Str), cc)] = some c) : y = "__class__" ∧ c = cc := by
  rw [List.lookup_cons] at h
  cases z : y == ("__class__" : Str) with
  | true =>
    rw [z] at h
    exact ⟨beq_iff_eq.mp z, (Option.some.inj h).symm⟩
  | false =>
    rw [z] at h
    cases h
abbrev initBody (x fld : Str) (p0 p1 p2 p3 p4 p5 p6 p7 p8 p9 : Pos) : List Stmt :=
  [.Expr (.Call (.Attribute (.Call (.Name "super" p0) [] [] p1) "__init__" p2) [.Name x p3] [] p4) p5, .Assign [.Attribute (.Name "self" p6) fld p7] (.Name x p8) p9]
abbrev initScope (x : Str) : Scope := ⟨.function, [("self", .local), (x, .local), ("__class__", .free), ("super", .globalImplicit)], false, false, []⟩
abbrev initArgs (x : Str) (q1 q2 : Pos) : Arguments := ⟨[], [⟨"self", none, q1⟩, ⟨x, none, q2⟩], none, [], [], none, []⟩
theorem init_ok (lk : K.lookup f = some ⟨oc, od, .func (PySem.W.ksFn name qual (initArgs x q1 q2) (initBody x fld p0 p1 p2 p3 p4 p5 p6 p7 p8 p9) (initScope x) dV kV doc pm an (.ref cda) ct cc), osl⟩) (hcd : PySem.W.codeIn K (.ref cda) qual = true)
    (T : InitC P K C f fld cda cc) (S : NScope ["self", x, "__class__"] ["self", x] ["__class__"] (initScope x)) (hks : (initScope x).names.lookup ("super" : Str) = some .globalImplicit)
    (hx : (x == ("__debug__" : Str)) = false) (hx2 : (x == ("__classdict__" : Str)) = false) (hmg : mg "super" = none)
    {pl : Env → Sem Bool} (hev : ∀ env : Env, eval (.Call (.Attribute (.Call (.Name "super" p0) [] [] p1) "__init__" p2) [.Name x p3] [] p4) env = (do
      let ov ← attributeBase (.Call (.Name "super" p0) [] [] p1) "__init__" env (eval (.Call (.Name "super" p0) [] [] p1) env)
      standAt p2.atName
      let (f, first) ← holding [ov] (getMethod ov "__init__" (pl env))
      callWith p4 f first (backTo p4 (starEach [.Name x p3] env)) [])) :
    FnOk P w K mg base CX (k + 1) f (PySem.W.ksFn name qual (initArgs x q1 q2) (initBody x fld p0 p1 p2 p3 p4 p5 p6 p7 p8 p9) (initScope x) dV kV doc pm an (.ref cda) ct cc) ["self", x] (spInit C fld) := by
  refine ⟨fun vs H Q E ⟨e, v, h, _⟩ => by rw [h]; rfl, fun A outer s H args us vs Q E hr e0 hb r hsp => ?_⟩
  obtain ⟨e, v, hvs, he, hq⟩ := hsp
  subst hvs
  have KX : K.In s.heap := e0.mod.kin.keeps fun b o e => (e0.bs b o e).1
  have lim : s.heap.NoLimit := e0.mod.nolimit.keeps fun b o e => (e0.bs b o e).1
  obtain ⟨cl, cld, csl, hcc⟩ := T.cell
  obtain ⟨ccl, cdd, vs, ccs, file, tf, hcode, hvs, hfile⟩ := T.code
  have hkl : ∀ {y : Str}, y ∈ [("self" : Str), x] → (initScope x).names.lookup y = some .local := fun {y} hy => S.par y hy
  let F : NF := ⟨name, qual, initArgs x q1 q2, initBody x fld p0 p1 p2 p3 p4 p5 p6 p7 p8 p9, initScope x, [("__class__", cc)], cda⟩
  have Cs : CellsAt F.cl ["__class__"] [some (V.ref C)] s.heap H := ⟨rfl, fun y c h => by
      obtain ⟨_, hy⟩ := lk_one h
      subst hy
      exact ⟨(e0.bs _ _ (e0.mod.kin _ _ hcc)).2, _, _, KX _ _ hcc, rfl⟩, fun a b c ha hb => (lk_one ha).1.trans (lk_one hb).1.symm, fun i y h => by
      match i, h with
      | 0, h =>
        cases h
        exact ⟨cc, rfl, fun v h => by cases h; exact ⟨_, rfl, _, KX _ _ hcc, rfl⟩⟩⟩
  refine PySem.ks_codeAny_call_defAt hr.depth (KX _ _ lk) rfl lim (PySem.W.codeRec_of KX hcd) rfl hb S.nocell (fun ⟨n, z⟩ hy => S.par n (List.of_mem_zip hy).1) (fun h₁ hns kp => ?_) S.co S.gen S.kind
  show _root_.PySem.wpAt (model P w) (A.deeper (envF F f s.heap.objs.size)) (.func _ (envF F f s.heap.objs.size)) (execs (initBody x fld p0 p1 p2 p3 p4 p5 p6 p7 p8 p9) (envF F f s.heap.objs.size)) _ _ _
  have I : L2.Inv (ncx CX P w K mg base ["self", x, "__class__"] F f A outer s H E) [] (startF ["self", x, "__class__"] [.ref e, v] [some (V.ref C)]) H { s with heap := h₁, toks := s.toks + ((["self", x] : List Str).zip us).length } := inv_startN S hr.hd e0 rfl r Cs hns kp
  have hkc : (initScope x).names.lookup ("__class__" : Str) = some .free := S.frk _ (List.mem_singleton.mpr rfl)
  obtain ⟨nm, q, N, bs, bm, sn, sub, ab, col, dd, k0, k1, k2, k3, k5, hC, hbm⟩ := T.oex.cls
  have hcl : PySem.W.clsIn K C = some { name := nm, bases := bs, mro := .ref C :: bm, ns := N, qualname := q, hasDict := true, slotNames := sn, subclasses := sub, abstract := ab, collection := col, hasDel := false } := by unfold PySem.W.clsIn; rw [hC] <;> rfl
  obtain ⟨t1, ho⟩ := exo_at I.hok he
  have K1 : K.In h₁ := I.kIn
  refine PySem.ks_wpAt_execs_cons (PySem.ks_wpAt_Expr_any (PySem.ks_wpAt_MethodCall (PySem.ks_wpAt_super_base hks hkc (by decide) rfl (K1 _ _ lk) rfl rfl rfl (K1 _ _ hcode) rfl hvs hfile T.top ?_) (hev _)))
  refine ld_sup I hks hmg (u := .type "super") (by first | boot_by_name | rfl | kernel_rfl) ⟨rfl, ?_⟩
  refine wpAny_loadName_free S.kind hkc rfl ⟨_, K1 _ _ hcc, rfl⟩ ?_
  refine ld_self I (i := 0) rfl rfl (hkl (by simp)) fun u ru => ?_
  obtain rfl : u = Value.ref e := ru
  refine PySem.ks_wpAny_isType_cls (K1 _ _ hC) rfl ⟨rfl, ?_⟩
  refine PySem.ks_wpAny_call_super (K1 _ _ hC) rfl ho rfl (fun c z => by cases z) (PySem.W.looks_mroIn K1 T.mro) (fun h' e' k' => ?_)
  have J1 := I.kept (h' := h') (t' := s.toks + ((["self", x] : List Str).zip us).length) k'
  have K2 : K.In h' := J1.kIn
  have I2 : PySem.W.InstAt h' e { cls := .ref C, dict := none, data := .fields #[.ref t1, .none, .none, .none, .bool false, .none] } C none := ⟨k' _ _ ho, rfl, rfl, trivial⟩
  have hsup := T.sup
  unfold PySem.W.ks_superIn at hsup
  rw [hcl] at hsup
  refine PySem.W.kxs_getMethod PySem.W.kxs_ValueError e' (PySem.W.looks_opaque K2 T.stat) (l₀ := .ref C :: bm) (fun A Q E s k q => wpAny_bind ((PySem.W.looks_clsIn K2 hcl) A _ E s k (wpAny_pure q))) rfl K2 hsup (I2.type.andThen (PySem.W.looks_subIn K2 T.sub)) (PySem.W.ks_ne K2 I2 hcl) (by decide) ?_
  have J2 := J1.kept (h' := h'.push (PySem.W.kxs_mw "ValueError.__init__" e)) (t' := s.toks + ((["self", x] : List Str).zip us).length + 1) fun b u z => Heap.get?_push_of_some _ z
  have hu : (h'.push (PySem.W.kxs_mw "ValueError.__init__" e)).get? h'.objs.size = some (PySem.W.kxs_mw "ValueError.__init__" e) := Heap.get?_push_at rfl rfl
  have hse : starEach [Expr.Name x p3] (envF F f s.heap.objs.size) = (false, eval (.Name x p3) (envF F f s.heap.objs.size)) :: starEach [] (envF F f s.heap.objs.size) := by rfl
  rw [hse]
  refine PySem.W.kxs_callWith (i := "ValueError.__init__") (x := e) rfl (evalArgs_plain ?_)
  refine Calls.spliced_cons (wpAny_Name (ld_self J2 (i := 1) rfl rfl (hkl (by simp)) fun u1 r1 => Calls.spliced_nil ⟨hu, ?_⟩) hx)
  have he3 := J2.hok
  obtain ⟨t2, ho2⟩ := exo_at J2.hok he
  have K3 : K.In (h'.push (PySem.W.kxs_mw "ValueError.__init__" e)) := J2.kIn
  refine wpAny_call (codeAny_of_tree ?_)
  show wpAny _ _ (callAny (.ref h'.objs.size) ⟨[u1], []⟩) _ _ _
  simp only [callAny]
  refine wpAny_bind (wpAny_load hu ?_)
  simp only [PySem.W.kxs_mw, show (Value.type "method-wrapper" == Value.type "method" || Value.type "method-wrapper" == Value.type "builtin_function_or_method" || Value.type "method-wrapper" == Value.type "method-wrapper") = true by decide, if_true]
  refine PySem.W.KFB.if_so (by decide) ?_
  refine wpAny_bind (PySem.W.check_bound_init PySem.F.excBase_ValueError.toExcCallFacts (K3 _ _ hC) ho2 rfl ?_)
  refine wpAny_bind (wpAny_pure (wpAny_pure ?_))
  refine ⟨plainId_quiet PySem.F.excBase_ValueError.init.plain _, codeAny_builtin PySem.F.excBase_ValueError.initEntry ?_⟩
  refine PySem.W.exc_init_tree (cls := .ref C) (t0 := t2) (dv := none) (c2 := .none) (c3 := .none) (b4 := .bool false) ho2 (by rw [sizeLine_eq]; show 1 ≤ 16777216; decide) fun h3 k3 x3 _ => ?_
  have J4 := J2.write (h' := h3) (t' := s.toks + ((["self", x] : List Str).zip us).length + 1) (x := e) (e := e) (o := exo e C none) (by rw [he]; exact True.intro) (.inl rfl) k3 ⟨_, x3⟩ (exo_ok x3)
  have eu : upd H e (exo e C none) = H := by
    funext b
    by_cases hb : b = e
    · rw [hb, upd_same, he]
    · rw [upd_ne hb]
  rw [eu] at J4
  show PySem.wpAt _ _ _ (execs [_] _) _ _ _
  refine wpAt_of_wpAny (wpAny_mono ((pss_one (ps_ost (f := fld) (p' := p7) (pos := p9) (pv (X := ncx CX P w K mg base ["self", x, "__class__"] F f A outer s H E) (pos := p6) 0 rfl (.inl (hkl (by simp)))) (pv (X := ncx CX P w K mg base ["self", x, "__class__"] F f A outer s H E) (pos := p8) 1 rfl (.inl (hkl (by simp))) hx hx2))).run [] _ _ H { nx := fun _ H' => Q .non H', rt := Q } J4
    ⟨v, rfl, .ref e, rfl, e, C, rfl, T.oex, T.hno, .inl ⟨he, fun dx n ne => hq dx n ne⟩⟩) (fun fl s' hs => ?_) fun e s' hs => hs)
  have fin : ∀ {σ' : L2.St} {H' : Hp} {v : V} {u : Value}, L2.Inv (ncx CX P w K mg base ["self", x, "__class__"] F f A outer s H E) [] σ' H' s' → L2.RelV v u → Q v H' → CE outer P w H s Q u s' :=
    fun {σ' H' v u} J rv q => ⟨v, H', J.os, J.bare, J.base, J.hok, rv, q⟩
  cases fl with
  | ret u =>
    obtain ⟨v, σ', H', J, rv, q⟩ := hs
    exact fin J rv q
  | next =>
    obtain ⟨σ', H', J, q⟩ := hs
    exact fin (v := V.non) (u := Value.none) J rfl q
  | brk =>
    obtain ⟨_, _, _, q⟩ := hs
    exact False.elim q
  | cont =>
    obtain ⟨_, _, _, q⟩ := hs
    exact False.elim q
end
end EX
set_option Elab.async false
set_option linter.all false
set_option maxRecDepth 100000
set_option maxHeartbeats 2000000
/-! E2: own exceptions as values: made, asked for their class, their field read. -/
namespace EX
open PySem PySem.Spec PySem.Calls PyProof.Rows L2 BX
/-! ### they do not change -/
theorem exo_stay {e C : Addr} {d : Option Addr} : ∀ h1 h2 : Heap, (∃ t1 : Addr, h1.get? e = some ({ cls := .ref C, dict := d, data := .fields #[.ref t1, .none, .none, .none, .bool false, .none] } : Obj)) → (∀ o, h1.get? e = some o → h2.get? e = some o) →
    ∃ t1 : Addr, h2.get? e = some ({ cls := .ref C, dict := d, data := .fields #[.ref t1, .none, .none, .none, .bool false, .none] } : Obj) := fun h1 h2 ⟨t, z⟩ k => ⟨t, k _ z⟩
theorem exo_nc {e C : Addr} {d : Option Addr} {h : Heap} (hφ : ∃ t1 : Addr, h.get? e = some ({ cls := .ref C, dict := d, data := .fields #[.ref t1, .none, .none, .none, .bool false, .none] } : Obj)) : ¬ Chg (exo e C d) := by
  rintro (⟨_, z⟩ | ⟨_, z⟩ | ⟨_, z⟩ | ⟨P', w', a', ks, z⟩)
  · cases (show HO.ext _ = HO.lst _ from z)
  · cases (show HO.ext _ = HO.dK _ from z)
  · cases (show HO.ext _ = HO.dT _ from z)
  · have z' := HO.ext.inj (show HO.ext _ = HO.ext (dxφ P' w' a' ks) from z)
    have h1 := exo_stay h (onlyH h e) hφ fun o q => by rw [onlyH_at]; exact q
    have h2 : dxφ P' w' a' ks (onlyH h e) := by
      rw [← z']
      exact h1
    obtain ⟨_, _, xs, _, o, es, ep, g, _, gd, gl, _⟩ := h2
    obtain ⟨t1, g'⟩ := h1
    have : a' = e := onlyH_off g
    subst this
    rw [g] at g'
    cases g'
    cases gd
theorem exd_nc {dx : Addr} {f : Str} {v : V} {h : Heap} (hφ : ∃ mA, h.Ns1 dx mA ∧ ∀ g, RelO ([(f, v)].lookup g) (mA g)) : ¬ Chg (exd dx [(f, v)]) := by
  rintro (⟨_, z⟩ | ⟨_, z⟩ | ⟨_, z⟩ | ⟨P', w', a', ks, z⟩)
  · cases (show HO.ext _ = HO.lst _ from z)
  · cases (show HO.ext _ = HO.dK _ from z)
  · cases (show HO.ext _ = HO.dT _ from z)
  · have z' := HO.ext.inj (show HO.ext _ = HO.ext (dxφ P' w' a' ks) from z)
    obtain ⟨mA, ⟨o0, es0, ep0, g0, r0⟩, rel⟩ := hφ
    have h1 : ∃ mA, (onlyH h dx).Ns1 dx mA ∧ ∀ g, RelO ([(f, v)].lookup g) (mA g) := ⟨mA, ⟨o0, es0, ep0, by rw [onlyH_at]; exact g0, r0⟩, rel⟩
    have h2 : dxφ P' w' a' ks (onlyH h dx) := by
      rw [← z']
      exact h1
    obtain ⟨_, _, xs, _, o, es, ep, g, _, gd, gl, _⟩ := h2
    have : a' = dx := onlyH_off g
    subst this
    rw [onlyH_at] at g
    rw [g] at g0
    cases g0
    obtain ⟨gd', sk, uk, fnd⟩ := r0
    rw [gd] at gd'
    cases gd'
    have rf := rel f
    rw [show [(f, v)].lookup f = some v from by rw [List.lookup_cons]; simp] at rf
    obtain ⟨u, hu, _⟩ := RelO.some_of rf
    have hf := fnd f
    rw [hu] at hf
    unfold nsFind findBy at hf
    rw [← Array.find?_toList, gl] at hf
    have : ∀ (l : List (List Key × Addr × Value)), List.find? (fun e => e.key.isStr f) (l.map (entryOfKey (tupleKind (mixKind P' w')))) = none := fun l => by
      rw [List.find?_eq_none]
      intro x hx
      obtain ⟨y, _, rfl⟩ := List.mem_map.mp hx
      exact fun z => by cases z
    rw [this] at hf
    cases hf

/-! ### made -/
section
variable {X : Cx} {e : Expr} {es : List Expr} {ta te : TA} {p pos : Pos}
/-- C(v), C's own `__init__` being of the form of E1 -/
def tExI (C : Addr) (fld : Str) (ta : TA) : TE := fun σ H Q => ta σ H fun vs H1 => ∃ v, vs = [v] ∧ ∀ a dx, H1 a = none → H1 dx = none → dx ≠ a → ¬ Chg (exo a C (some dx)) → ¬ Chg (exd dx [(fld, v)]) → Q (.ref a) (upd (upd H1 dx (exd dx [(fld, v)])) a (exo a C (some dx)))
theorem pe_oex {CX : CXT} {x y fld : Str} {C fI : Addr} {k : Nat} {fd : FuncData} (T : OexC X.K C) (iC : PySem.W.findIn X.K (.ref C) "__init__" = some (some (.ref fI))) (tI : PySem.W.typeIn X.K (.ref fI) = some (.type "function"))
    (F1 : FnOk X.prog X.w X.K X.mg X.base CX k fI fd ["self", y] (spInit C fld)) (hr : Room (k + 1) X.A) (hb : Binds X.K fd ["self", y] []) (hx : Passes CX X (fun _ _ _ => False)) (hg : Gl X x) (hm : X.mg x = some (.ref C)) (ha : PA X (e :: es) ta)
    (hdb : (x == ("__debug__" : Str)) = false := by decide) (he : starEach (e :: es) X.env = (false, eval e X.env) :: starEach es X.env := by rfl) (hpl : (backTo pos (starEach es X.env)).any (·.1) = false := by rfl) :
    PE X (.Call (.Name x p) (e :: es) [] pos) (tExI C fld ta) := by
  refine ⟨fun pins s σ H Q I h => ?_⟩
  obtain ⟨nm, q, N, bs, bm, sn, sub, ab, col, dd, k0, k1, k2, k3, k5, hC, hbm⟩ := T.cls
  refine wpAny_Call_Name_kw (ld_glob I hg hm ?_ hdb)
  refine PySem.W.callWith_K (h₀ := X.base) I.ok.mod.kin T.kC (thn (ha.run pos pins s σ H _ I h) fun us s1 ⟨vs, H1, I1, r1, v, ev, q1⟩ => ⟨I1.kIn, ?_⟩) he hpl
  subst ev
  show wpAny _ _ (call (.ref C) us) _ _ _
  obtain ⟨hp, g, dr, tk, os⟩ := s1
  have hsz : hp.objs.size ≤ hp.objs.size + 1 := Nat.le_succ _
  have hn : H1 (hp.objs.size + 1) = none := I1.hok.fresh hsz
  have kk : ∀ b o, hp.get? b = some o → ((hp.push (PySem.W.kdv_tup us)).push (PySem.HandSPX.excO C hp.objs.size)).get? b = some o := fun b o e => Heap.get?_push_of_some _ (Heap.get?_push_of_some _ e)
  have hget : ((hp.push (PySem.W.kdv_tup us)).push (PySem.HandSPX.excO C hp.objs.size)).get? (hp.objs.size + 1) = some (PySem.HandSPX.excO C hp.objs.size) := by heap_get
  have I2 : L2.Inv X pins σ (upd H1 (hp.objs.size + 1) (exo (hp.objs.size + 1) C none)) ⟨(hp.push (PySem.W.kdv_tup us)).push (PySem.HandSPX.excO C hp.objs.size), g, dr, tk, os⟩ :=
    I1.laid (t' := tk) (a := hp.objs.size + 1) (o := exo (hp.objs.size + 1) C none) (h' := (hp.push (PySem.W.kdv_tup us)).push (PySem.HandSPX.excO C hp.objs.size)) kk hsz (exo_ok hget)
  have r2 : Vals [V.ref (hp.objs.size + 1), v] (Value.ref (hp.objs.size + 1) :: us) := .cons rfl r1
  have hl : (Value.ref (hp.objs.size + 1) :: us).length = ([("self" : Str), y] : List Str).length := r2.length.symm
  have hus : us.length ≤ sizeLine := by
    have : us.length = 1 := Nat.succ.inj hl
    rw [this, sizeLine_eq]
    omega
  have hq : spInit C fld [V.ref (hp.objs.size + 1), v] (upd H1 (hp.objs.size + 1) (exo (hp.objs.size + 1) C none)) (fun r H2 => r = .non ∧ ∃ dx, H1 dx = none ∧ dx ≠ hp.objs.size + 1 ∧ H2 = upd (upd H1 dx (exd dx [(fld, v)])) (hp.objs.size + 1) (exo (hp.objs.size + 1) C (some dx))) (fun _ _ _ => False) := by
    refine ⟨_, v, rfl, upd_same, fun dx n ne => ⟨rfl, dx, ?_, ne, ?_⟩⟩
    · rw [upd_ne ne] at n
      exact n
    · funext b
      by_cases hb : b = hp.objs.size + 1
      · rw [hb, upd_same, upd_same]
      · rw [upd_ne hb, upd_ne hb]
        by_cases hb2 : b = dx
        · rw [hb2, upd_same, upd_same]
        · rw [upd_ne hb2, upd_ne hb2, upd_ne hb]
  refine wpAny_call (PySem.HandSPX.call_own PySem.F.excBase_ValueError (fun Y => PySem.HandSPX.refsVE_contains Y bm hbm) (I1.kIn _ _ hC) (PySem.W.looks_findIn I1.kIn iC) (fun self => PySem.W.bind_fn I1.kIn self tI) hus
    (codeAny_mono (F1.run _ X.stack _ _ ⟨Value.ref (hp.objs.size + 1) :: us, []⟩ (Value.ref (hp.objs.size + 1) :: us) _ _ (fun _ _ _ => False) (hr.make C us []) (I2.env0.make C us []) (by
      have := hb _ (Value.ref (hp.objs.size + 1) :: us) I2.kIn (by rw [List.append_nil]; exact hl)
      rw [List.append_nil] at this
      exact this) r2 hq) fun r s' hq' => ?_))
  cases r with
  | error er => exact hx pins σ _ _ er s' I2 hq'
  | ok fl =>
    cases fl with
    | ret u =>
      obtain ⟨v0, H2, os2, bare2, un2, hok2, rv, ev, dx, n, ne, eH⟩ := hq'
      subst ev
      obtain ⟨h2, g2, d2, t2, os'⟩ := s'
      have J : L2.Inv X pins σ H2 ⟨h2, g2, d2, t2, os'⟩ := I2.call' (ch := []) os2 un2 hok2 bare2 (fun b z => absurd z (by simp))
      refine ⟨rv, .ref (hp.objs.size + 1), H2, J, rfl, ?_⟩
      subst eH
      refine q1 _ dx hn n ne (exo_nc (exo_at J.hok upd_same)) (exd_nc (exd_at J.hok (by rw [upd_ne ne, upd_same])))
    | next => exact False.elim hq'
    | brk => exact False.elim hq'
    | cont => exact False.elim hq'
/-- C(), C without own `__init__` -/
def tEx0 (C : Addr) : TE := fun _ H1 Q => ∀ a, H1 a = none → ¬ Chg (exo a C none) → Q (.ref a) (upd H1 a (exo a C none))
theorem pe_ex0 {C : Addr} {bmB : List Value} {B newId initId : String} {x : Str} (F : ExcBaseFacts B newId initId bmB) (q : PySem.W.excIn X.K C bmB newId = true) (gC : X.mg x = some (.ref C)) (kC : PySem.W.keepIn X.K (.ref C) = true) (hg : Gl X x)
    (hs : starEach [] X.env = [] := by rfl) (hdb : (x == ("__debug__" : Str)) = false := by decide) :
    PE X (.Call (.Name x p) [] [] pos) (tEx0 C) := by
  refine ⟨fun pins s σ H Q I h => ?_⟩
  refine wpAny_Call_Name_kw (ld_glob I hg gC ?_ hdb)
  refine PySem.W.callWith_K0 I.kIn kC ?_
  show wpAny _ _ (call (.ref C) []) _ _ _
  obtain ⟨bm, N, nm, qn, bs, hdct, sn, sub, ab, col, dd, k0, k1, k2, k3, k5, mN, hC, hN, hni, T⟩ := exc_obj I.kIn q
  refine wpAny_call_exc_subT F T hC hN hni (fun h' a hm => ?_) (by show 0 ≤ sizeLine; omega)
  have hn : H a = none := I.hok.gone hm.new
  obtain ⟨t, ht, z1, z2⟩ := hm.there
  refine ⟨.ref a, upd H a (exo a C none), I.laidN hm.keeps hm.new hn (exo_ok ht), rfl, h a hn (exo_nc ⟨_, ht⟩)⟩
end
/-! ### asked -/
def ExAt (H : Hp) (x : V) (C : Addr) : Prop := ∃ a, x = .ref a ∧ (H a = some (exo a C none) ∨ ∃ dx fs, H a = some (exo a C (some dx)) ∧ H dx = some (exd dx fs))
theorem exAt_inst {X : Cx} {pins : List (Addr × Obj)} {σ : L2.St} {H : Hp} {s : Shared} {a C : Addr} (I : L2.Inv X pins σ H s) (h : ExAt H (.ref a) C) : ∃ ox od, PySem.W.InstAt s.heap a ox C od := by
  obtain ⟨a', e, h⟩ := h
  cases e
  rcases h with h | ⟨dx, fs, h, hd⟩
  · obtain ⟨t, z⟩ := exo_at I.hok h
    exact ⟨_, none, z, rfl, rfl, trivial⟩
  · obtain ⟨t, z⟩ := exo_at I.hok h
    obtain ⟨mA, hns, _⟩ := exd_at I.hok hd
    obtain ⟨od, ho, _⟩ := lookIn_ns hns
    exact ⟨_, some od, z, rfl, rfl, ho⟩
def rIsiE (K : PySem.W.Frag) : List V → Hp → VK → Prop := fun xs H Q => ∃ (x c : V) (C : Addr) (u : Value) (b : Bool), xs = [x, c] ∧ ClsV c u ∧ ExcC K C ∧ ExAt H x C ∧ PySem.W.kitOne K (.ref C) u = some b ∧ Q (.bl b) H
theorem call_isiE {X : Cx} : CallR X (.builtin "isinstance") (rIsiE X.K) := by
  intro pins s σ H xs us Q I r h
  obtain ⟨x, c, C, u, b, rfl, kc, T, ex, e, q⟩ := h
  obtain ⟨u1, u2, rfl, r1, r2⟩ := vals2 r
  have e2 := kc.eq r2
  subst e2
  obtain ⟨a, rfl, z⟩ := ex
  cases (show u1 = Value.ref a from r1)
  obtain ⟨ox, od, J⟩ := exAt_inst I ⟨a, rfl, z⟩
  have hcl : (PySem.W.clsIn X.K C).isSome = true := by
    obtain ⟨cd, hc, _⟩ := PySem.W.any_some T.hd
    rw [hc]
    rfl
  exact PySem.W.kia_one (PySem.W.kitx_exc (od := od) (ox := ox) hcl T.hg T.hk T.hs T.ha T.hn T.ht T.hm) I.kIn J e (fun z => nomatch z) fun tk => ⟨.bl b, H, I.tok tk, rfl, q⟩
theorem k_isiE {X : Cx} {K : PySem.W.Frag} (hK : X.K = K) : CallR X (.builtin "isinstance") (rIsiE K) := by subst hK; exact call_isiE
/-- its field -/
def tExf (K : PySem.W.Frag) (f : Str) (te : TE) : TE := fun σ H Q => te σ H fun x H1 => ∃ (a C dx : Addr) (fs : List (Str × V)) (v : V), x = .ref a ∧ H1 a = some (exo a C (some dx)) ∧ H1 dx = some (exd dx fs) ∧ XfC K C ∧ PySem.W.findIn K (.ref C) f = some none ∧ fs.lookup f = some v ∧ Q v H1
theorem pe_exf {X : Cx} {K : PySem.W.Frag} {e : Expr} {te : TE} {pos : Pos} {n : Str} (hK : X.K = K) (he : PE X e te) (hb : attributeBase e n X.env (eval e X.env) = eval e X.env := by rfl) : PE X (.Attribute e n pos) (tExf K n te) := by
  subst hK
  refine ⟨fun pins s σ H Q I h => ?_⟩
  refine attr_of hb (thn (he.run pins s σ H _ I h) fun u s1 hh => ?_)
  obtain ⟨x, H1, I1, rx, a, C, dx, fs, v, ex, ea, ed, T, hno, l, q⟩ := hh
  subst ex
  obtain rfl : u = Value.ref a := rx
  obtain ⟨t, z⟩ := exo_at I1.hok ea
  obtain ⟨mA, hns, hr⟩ := exd_at I1.hok ed
  obtain ⟨od, ho, hl⟩ := lookIn_ns hns
  obtain ⟨u, hu, ru⟩ := RelO.some_of (v := v) (o := mA n) (by rw [← l]; exact hr n)
  have J : PySem.W.InstAt s1.heap a _ C (some od) := ⟨z, rfl, rfl, ho⟩
  exact HandSPX.exc_get I1.kIn J T.ga T.gg T.exC (PySem.W.findObj_own T.hdC hno rfl (by rw [hl, hu])) (handed_of ru) ⟨v, H1, I1.tok _, ru, q⟩
/-! ### as relations -/
/-- an exception of the class at C with a field -/
def rExc (C : Addr) (f : Str) (r : Rel) : Rel := ⟨fun v H => ∃ a dx x, v = .ref a ∧ H a = some (exo a C (some dx)) ∧ H dx = some (exd dx [(f, x)]) ∧ ¬ Chg (exo a C (some dx)) ∧ ¬ Chg (exd dx [(f, x)]) ∧ r.p x H,
  fun im ⟨a, dx, x, e, h1, h2, n1, n2, h3⟩ => ⟨a, dx, x, e, im _ _ n1 h1, im _ _ n2 h2, n1, n2, r.st im h3⟩⟩
/-- one without -/
def rEx0 (C : Addr) : Rel := ⟨fun v H => ∃ a, v = .ref a ∧ H a = some (exo a C none) ∧ ¬ Chg (exo a C none), fun im ⟨a, e, h1, n1⟩ => ⟨a, e, im _ _ n1 h1, n1⟩⟩
/-- of the class at C -/
def IsEx (C : Addr) (r : Rel) : Prop := ∀ v H, r.p v H → ExAt H v C
theorem isEx_c {C : Addr} {f : Str} {r : Rel} : IsEx C (rExc C f r) := fun v H ⟨a, dx, x, e, h1, h2, _⟩ => ⟨a, e, .inr ⟨dx, _, h1, h2⟩⟩
theorem isEx_0 {C : Addr} : IsEx C (rEx0 C) := fun v H ⟨a, e, h1, _⟩ => ⟨a, e, .inl h1⟩
section
variable {B : Bd} {Γ : BX.Ctx} {k : Rel → Prop}
theorem we_exI {C : Addr} {f : Str} {ta : TA} (h : WpA B Γ ta fun rs => ∃ r, rs = [r] ∧ k (rExc C f r)) : WpE B Γ (tExI C f ta) k := fun σ H E Q hQ =>
  h σ H E _ fun rs vs H1 ⟨r, er, hk⟩ p e => by
    subst er
    cases p with
    | cons p1 t1 =>
      cases t1
      refine ⟨_, rfl, fun a dx ha hd ne n1 n2 => hQ _ _ _ hk ⟨a, dx, _, rfl, upd_same, by rw [upd_ne ne, upd_same], n1, n2, r.st (Same.im ?_) p1⟩ (Same.trans e ?_)⟩
      · exact Same.trans (Same.new hd) (Same.new (by rw [upd_ne (Ne.symm ne)]; exact ha))
      · exact Same.trans (Same.new hd) (Same.new (by rw [upd_ne (Ne.symm ne)]; exact ha))
theorem we_ex0 {C : Addr} (h : k (rEx0 C)) : WpE B Γ (tEx0 C) k := fun σ H E Q hQ => fun a ha n1 => hQ _ _ _ h ⟨a, rfl, upd_same, n1⟩ (Same.new ha)
theorem we_exf {te : TE} {f : Str} (h : WpE B Γ te fun r => ∃ C ru, r = rExc C f ru ∧ XfC B.K C ∧ PySem.W.findIn B.K (.ref C) f = some none ∧ k ru) : WpE B Γ (tExf B.K f te) k := fun σ H E Q hQ =>
  h σ H E _ fun r v H1 ⟨C, ru, er, T, hno, hk⟩ p e => by
    subst er
    obtain ⟨a, dx, x, rfl, h1, h2, n1, n2, h3⟩ := p
    exact ⟨a, C, dx, _, x, rfl, h1, h2, T, hno, by rw [List.lookup_cons]; simp, hQ _ _ _ hk h3 e⟩
theorem ct_isiE {r : Rel} {c : V} {C : Addr} {u : Value} {b : Bool} (h : IsEx C r) (T : ExcC B.K C) (hc : ClsV c u) (e : PySem.W.kitOne B.K (.ref C) u = some b) (q : k (rBl b)) : CaT B (rIsiE B.K) [r, rC c] k := fun H vs _ hh Q hQ => by
  cases hh with
  | cons h1 t1 =>
    cases t1 with
    | cons h2 t2 =>
      cases t2
      cases h2
      exact ⟨_, c, C, u, b, rfl, hc, T, h _ _ h1, e, hQ _ _ H q rfl (Same.refl H)⟩
end
end EX
set_option Elab.async false
set_option linter.all false
set_option maxRecDepth 100000
set_option maxHeartbeats 2000000
/-! E3: a thing is equal to itself; lists of flags counted; lists made longer. -/
namespace EX
open PySem PySem.Spec PySem.Calls PyProof.Rows L2 BX
/-! ### a thing and itself -/
/-- None, a flag, a number, a text; a list, a tuple, a dict that stay -/
def SelfP (P : Program) (w : World) (K : PySem.W.Frag) (v : V) (H : Hp) : Prop :=
  (v = .non ∨ (∃ b, v = .bl b) ∨ (∃ i, v = .int i) ∨ ∃ s, v = .str s) ∨ (∃ a xs, v = .ref a ∧ SqT K H a xs) ∨ (∃ a o xs, v = .ref a ∧ H a = some (.frz o (.lst xs))) ∨ ∃ a o xs, v = .ref a ∧ H a = some (.frz o (.dK xs))
theorem SelfP.st {P : Program} {w : World} {K : PySem.W.Frag} {v : V} {H H' : Hp} (im : Im H H') (h : SelfP P w K v H) : SelfP P w K v H' := by
  rcases h with h | ⟨a, xs, e, h⟩ | ⟨a, o, xs, e, h⟩ | ⟨a, o, xs, e, h⟩
  · exact .inl h
  · exact .inr (.inl ⟨a, xs, e, sqT_im im h⟩)
  · exact .inr (.inr (.inl ⟨a, o, xs, e, im _ _ frz_nc h⟩))
  · exact .inr (.inr (.inr ⟨a, o, xs, e, im _ _ frz_nc h⟩))
def rSelfE (P : Program) (w : World) (K : PySem.W.Frag) : R2 := fun x y H Q => x = y ∧ SelfP P w K x H ∧ Q (.bl true) H
theorem hits_self {P : Program} {w : World} {A : Around} {s : Shared} {vb : List (Key × Value)} : ∀ (va : List (Key × Value)), (∀ p ∈ va, valueAt vb p.1 = some p.2) → PySem.W.KeqHitsP P w A s vb va true
  | [], _ => .nil
  | (k, v) :: r, h => .hit (h (k, v) List.mem_cons_self) (SeqAt.EqAt.same _).eqP (hits_self r fun p hp => h p (List.mem_cons_of_mem _ hp))
theorem valAt_nodup : ∀ (va : List (Key × Value)), (va.map (·.1)).Nodup → ∀ {p : Key × Value}, p ∈ va → valueAt va p.1 = some p.2
  | [], _, p, h => by cases h
  | q :: r, nd, p, h => by
    rw [List.map_cons, List.nodup_cons] at nd
    unfold valueAt
    rw [List.find?_cons]
    by_cases e : q.1 = p.1
    · rw [decide_eq_true e]
      rcases List.mem_cons.mp h with z | z
      · rw [z]
        rfl
      · exact absurd (List.mem_map.mpr ⟨p, z, e.symm⟩) nd.1
    · rw [decide_eq_false e]
      rcases List.mem_cons.mp h with z | z
      · exact absurd (by rw [z]) e
      · exact valAt_nodup r nd.2 z
theorem op_self {X : Cx} (hu : X.A.units + 64 < cLine) : OpR X (compareOp .Eq) (rSelfE X.prog X.w X.K) := by
  intro pins s σ H x y v u Q I rx ry h
  obtain ⟨rfl, h, q⟩ := h
  rcases h with h | ⟨a, xs, rfl, h⟩ | ⟨a, o, xs, rfl, h⟩ | ⟨a, o, xs, rfl, h⟩
  · refine op_eq pins s σ H x x v u Q I rx ry ⟨?_, ?_⟩
    · rcases h with rfl | ⟨b, rfl⟩ | ⟨i, rfl⟩ | ⟨z, rfl⟩ <;> rfl
    · rw [show decide (x = x) = true from decide_eq_true rfl]
      exact q
  · cases (show v = Value.ref a from rx)
    cases (show u = Value.ref a from ry)
    obtain ⟨its, rv, p1, _⟩ := I.tuple h
    refine SeqAt.rcIn_tuples p1 p1 (e := fun _ => true) (by omega) (fun j h1 h2 => (SeqAt.EqAt.same _).inModel _ _) ?_
    rw [show ((List.range (min its.toArray.size its.toArray.size)).all (fun _ => true) && its.toArray.size == its.toArray.size) = true from by
      rw [show (List.range (min its.toArray.size its.toArray.size)).all (fun _ => true) = true from List.all_eq_true.mpr fun _ _ => rfl]
      simp]
    exact ⟨.bl true, H, I, rfl, q⟩
  · cases (show v = Value.ref a from rx)
    cases (show u = Value.ref a from ry)
    obtain ⟨its, rv, p1, _⟩ := I.list (.inl (.inr ⟨o, h⟩))
    refine SeqAt.rcP_lists (e := fun _ => true) p1.isList p1.isList rfl (by omega) (fun j h1 h2 => (SeqAt.EqAt.same _).eqP) _ _ ?_
    rw [show ((List.range its.toArray.size).all fun _ => true) = true from List.all_eq_true.mpr fun _ _ => rfl]
    exact ⟨.bl true, H, I, rfl, q⟩
  · cases (show v = Value.ref a from rx)
    cases (show u = Value.ref a from ry)
    obtain ⟨_, _, ya, va, ra, da⟩ := (show ObjOk X.prog X.w H s.heap a (.frz o (.dK xs)) from I.hok a _ h)
    refine PySem.W.rcP_dicts (knd := mixKind X.prog X.w) (r := true) ya ya da da (by omega) (fun _ => hits_self va fun p hp => ?_) _ _ ?_
    · obtain ⟨_, _, _, _, _, _, _, _, nd⟩ := da
      exact valAt_nodup va nd hp
    · rw [show (va.length == va.length && true) = true from by simp]
      exact ⟨.bl true, H, I, rfl, q⟩
theorem k_eqS {X : Cx} {P : Program} {w : World} {K : PySem.W.Frag} (hP : X.prog = P) (hw : X.w = w) (hK : X.K = K) (hu : X.A.units + 64 < cLine) : OpR X (compareOp .Eq) (rSelfE P w K) := by
  subst hP hw hK
  exact op_self hu
/-! ### flags counted -/
inductive BlsAre : List Value → List Bool → Prop where
  | nil : BlsAre [] []
  | cons (b : Bool) {us : List Value} {bs : List Bool} (h : BlsAre us bs) : BlsAre (.bool b :: us) (b :: bs)
theorem bls_of : ∀ {us : List Value} {bs : List Bool}, Vals (bs.map V.bl) us → BlsAre us bs
  | _, [], .nil => .nil
  | _, b :: bs, .cons r h => by
    cases (show _ = Value.bool b from r)
    exact .cons b (bls_of h)
theorem bls_count {k : Bool} : ∀ {us : List Value} {bs : List Bool}, BlsAre us bs → us.countP (isBoolOf k) = bs.count k
  | _, _, .nil => rfl
  | _, _, .cons b h => by
    have ih := bls_count (k := k) h
    rw [List.countP_cons, List.count_cons, ih] <;> rfl
theorem bls_eq {k : Bool} {A : Around} {s : Shared} : ∀ {us : List Value} {bs : List Bool}, BlsAre us bs → ∀ y ∈ us, SeqAt.EqAt A s y (.bool k) (isBoolOf k y)
  | _, _, .nil => fun y hy => by cases hy
  | _, _, .cons b h => fun y hy => by
    rcases List.mem_cons.mp hy with e | e
    · rw [e]
      exact SeqAt.EqAt.bool_bool b k
    · exact bls_eq h y e
def rCntB (K : PySem.W.Frag) : V → List V → Hp → VK → Prop := fun x xs H Q => ∃ (p : Addr) (bs : List Bool) (k : Bool), x = .ref p ∧ xs = [.bl k] ∧ SqL K H p (bs.map V.bl) ∧ Q (.int (bs.count k : Nat)) H
theorem mt_bcount {X : Cx} : MtR X "list.count" (rCntB X.K) := by
  intro pins s σ H x xs v us Q I rx rxs h
  obtain ⟨p, bs, k, rfl, rfl, hs, q⟩ := h
  cases rx
  obtain ⟨u, rfl, ru⟩ := rxs.one
  cases (show u = Value.bool k from ru)
  obtain ⟨its, rv, ⟨⟨cls, dd, data, sl⟩, n, ho, hc, hdn, hd⟩, hlen⟩ := I.list hs
  simp only at hc hd
  subst hc hd
  have hi := bls_of rv
  refine call_meets PySem.F.slot_list_count ⟨_, ho, rfl⟩ PySem.F.entry_list_count (PySem.F.args_list_count_2 _ _)
    (SeqAt.list_countAt p its.toArray n dd sl (.bool k) (isBoolOf k)) ⟨ho, fun y hy => bls_eq hi y (by simpa using hy), ?_⟩
  have ec : its.toArray.toList.countP (isBoolOf k) = bs.count k := bls_count hi
  refine ⟨.int (bs.count k : Nat), H, I.tok _, ⟨s.toks, ?_⟩, q⟩
  show Value.int ((its.toArray.toList.countP (isBoolOf k) : Nat) : Int) s.toks = Value.int ((bs.count k : Nat) : Int) s.toks
  rw [ec]

/-! ### lists made longer, counted; a dict of one key -/
section
variable {X : Cx} {K : PySem.W.Frag} {o e : Expr} {td : TE} {tA : TA} {apos cpos : Pos}
theorem q_extend (hK : X.K = K) (ho : PE X o td) (ha : PA X [e] tA)
    (hbase : attributeBase o "extend" X.env (eval o X.env) = eval o X.env := by rfl)
    (hfew : ((backTo cpos (starEach [e] X.env)).all (fun x => !x.1) && (backToKw cpos (keywordEach [] X.env)).all (fun x => x.1.isSome)
      && decide (([e] : List Expr).length + ([] : List Keyword).length + (if ([] : List Keyword).isEmpty then 0 else 1) < 30)) = true := by rfl)
    (hline : (apos.endLine == cpos.line) = true := by rfl) (hs : starEach [e] X.env = (false, eval e X.env) :: starEach [] X.env := by rfl) (hplain : (backTo cpos (starEach [] X.env)).any (·.1) = false := by rfl) :
    PE X (.Call (.Attribute o "extend" apos) [e] [] cpos) (tBM K "list" rExtend td tA) := by subst hK; exact pe_bm PySem.F.plainAttrs_list PySem.F.slot_list_extend PySem.F.type_list_extend mt_extend ho ha hbase hfew hline hs hplain
theorem q_count (hK : X.K = K) (ho : PE X o td) (ha : PA X [e] tA)
    (hbase : attributeBase o "count" X.env (eval o X.env) = eval o X.env := by rfl)
    (hfew : ((backTo cpos (starEach [e] X.env)).all (fun x => !x.1) && (backToKw cpos (keywordEach [] X.env)).all (fun x => x.1.isSome)
      && decide (([e] : List Expr).length + ([] : List Keyword).length + (if ([] : List Keyword).isEmpty then 0 else 1) < 30)) = true := by rfl)
    (hline : (apos.endLine == cpos.line) = true := by rfl) (hs : starEach [e] X.env = (false, eval e X.env) :: starEach [] X.env := by rfl) (hplain : (backTo cpos (starEach [] X.env)).any (·.1) = false := by rfl) :
    PE X (.Call (.Attribute o "count" apos) [e] [] cpos) (tBM K "list" (rCntB K) td tA) := by subst hK; exact pe_bm PySem.F.plainAttrs_list PySem.F.slot_list_count PySem.F.type_list_count mt_bcount ho ha hbase hfew hline hs hplain
end
section
variable {B : Bd} {Γ : BX.Ctx} {D : Ends} {k : Rel → Prop} {te tl : TE}
theorem al_app {H : Hp} : ∀ {rs : List Rel} {xs : List V} {rs' : List Rel} {xs' : List V}, Al H rs xs → Al H rs' xs' → Al H (rs ++ rs') (xs ++ xs')
  | _, _, _, _, .nil, b => b
  | _, _, _, _, .cons h t, b => .cons h (al_app t b)
theorem al_bls {H : Hp} : ∀ {bs : List Bool} {xs : List V}, Al H (bs.map rBl) xs → xs = bs.map V.bl
  | [], _, .nil => rfl
  | b :: bs, _, .cons h t => by
    cases h
    rw [al_bls t]
    rfl
theorem ws_ext {i : Nat} {rs : List Rel} {tz : TS} (hi : Γ[i]? = some (.ml rs)) (h : WpL B Γ tl fun rs' => rs.length + rs'.length ≤ sizeLine ∧ WpS B D (Γ.set i (.ml (rs ++ rs'))) tz) :
    WpS B D Γ (tSeq (tDrop (tBM B.K "list" rExtend (tVar i) (tCons tl tNil))) tz) := fun σ H E => by
  obtain ⟨ov, h1, l, xs, rfl, h0, hl, hal⟩ := E.ty i _ hi
  refine ⟨_, h1, .inl ⟨rfl, _, .inl (.inl hl)⟩, ?_⟩
  refine h σ H E _ fun rs' b zs H1 ⟨hz, q⟩ hp e hb hal' => ?_
  have hl1 := e _ _ hl
  refine ⟨l, b, xs, zs, rfl, rfl, hl1, hb, by rw [← Paired.length hal, ← Paired.length hal']; exact hz, ?_⟩
  have hal1 := hal.st (Same.im e)
  exact q _ _ ((E.mono e).chg hi rfl h1 hl1 lst_c h0 ⟨l, _, rfl, h0, upd_same, Al.st (Im.upd hl1 lst_c) (al_app hal1 hal')⟩)
theorem we_cnt {ta : TE} {b : Bool} (h : WpE B Γ ta fun r => ∃ bs : List Bool, r = rLst (bs.map rBl) ∧ k (rInt (bs.count b : Nat))) : WpE B Γ (tBM B.K "list" (rCntB B.K) ta (tCons (tC (.bl b)) tNil)) k := fun σ H E Q hQ =>
  h σ H E _ fun r v H1 ⟨bs, er, hk⟩ p e => by
    subst er
    obtain ⟨a, o, xs, rfl, ha, hal⟩ := p
    have ex : xs = bs.map V.bl := al_bls hal
    subst ex
    have hs : SqL B.K H1 a (bs.map V.bl) := .inl (.inr ⟨o, ha⟩)
    exact ⟨.inl ⟨rfl, _, hs⟩, a, bs, b, rfl, rfl, hs, hQ _ _ _ hk rfl e⟩
theorem wd_one {kl : List (Key × Rel) → Prop} {kk : Key} (h : WpE B Γ te fun r => kl [(kk, r)]) : WpD B Γ (tDisp [(tC (kV kk), te)]) kl := fun σ H E Q hQ => fun p hp => by
  have e1 : Same H (upd H p (.dK [])) := Same.new hp
  show te σ (upd H p (.dK [])) _
  refine h σ _ (E.mono e1) _ fun r v H2 hk q e2 => ?_
  have hp2 : H2 p = some (.dK []) := e2 _ _ upd_same
  refine ⟨hp2, [(kk, v)], rfl, Nat.le_of_ble_eq_true rfl, ?_⟩
  refine hQ _ p _ _ hk hp (Same.put (Same.trans e1 e2) hp) upd_same (.cons ⟨rfl, r.st (Im.upd hp2 dk_c) q⟩ .nil)
end
end EX
set_option Elab.async false
set_option linter.all false
set_option maxRecDepth 100000
set_option maxHeartbeats 2000000
/-! E4: a def that gives back a new list; in of a tuple; two readings of one operation; the caught one's class. -/
namespace EX
open PySem PySem.Spec PySem.Calls PyProof.Rows L2 BX
/-! ### a def's promise of a new list -/
abbrev SpcL := List Rel → (List Rel → Prop) → Prop
def spL (S : SpcL) : Sp := fun vs H Q _ => ∃ rs k, Al H rs vs ∧ S rs k ∧ ∀ rs' l xs H', k rs' → H l = none → Same H H' → H' l = some (.lst xs) → Al H' rs' xs → Q (.ref l) H'
def RtL (B : Bd) (k : List Rel → Prop) (D : Ends) : Prop := ∀ rs l xs H', k rs → B.H0 l = none → Same B.H0 H' → H' l = some (.lst xs) → Al H' rs xs → D.rt (.ref l) H'
theorem read_ofL (P : Program) (w : World) (K : PySem.W.Frag) {H : Hp} {n : Nat} {vs : List V} {N : List Str} {t : TS} {S : SpcL} {Q : VK} {E : XK} (h : spL S vs H Q E) (hn : N.length = n)
    (hw : ∀ rs k (D : Ends), S rs k → RtL (bd P w K H) k D → WpS (bd P w K H) D (ctx0 n rs) t) : t { nx := fun _ H' => Q .non H', rt := Q } (L2.start N vs) H := by
  obtain ⟨rs, k, hal, hs, hQ⟩ := h
  exact hw rs k _ hs (fun rs' l xs H' q h0 e hl p => hQ rs' l xs H' q h0 e hl p) _ _ (env0 (B := bd P w K H) (fun _ => trivial) hn hal)
theorem len_ofL {S : SpcL} {n : Nat} (hS : ∀ rs k, S rs k → rs.length = n) : ∀ vs H Q E, spL S vs H Q E → vs.length = n := fun vs H Q E ⟨rs, k, hal, hs, _⟩ => by
  rw [← Paired.length hal]
  exact hS rs k hs
section
variable {B : Bd} {Γ : BX.Ctx} {D : Ends}
theorem ws_retM {i : Nat} {rs : List Rel} {k : List Rel → Prop} {tz : TS} (hi : Γ[i]? = some (.ml rs)) (hD : RtL B k D) (hk : k rs) : WpS B D Γ (tSeq (tRet (tVar i)) tz) := fun σ H E => by
  obtain ⟨ov, h1, l, xs, rfl, h0, hl, hal⟩ := E.ty i _ hi
  exact ⟨_, h1, hD rs l xs H hk h0 E.ex hl hal⟩
theorem wl_call {S : SpcL} {E0' : XK} {tA : TA} {kl : List Rel → Prop} (h : WpA B Γ tA fun rs => S rs kl) : WpL B Γ (tCall (spL S) [] E0' tA) kl := fun σ H E Q hQ =>
  h σ H E _ fun rs vs H1 h1 p1 e1 => by
    show spL S (vs ++ []) H1 Q E0'
    rw [List.append_nil]
    exact ⟨rs, kl, p1, h1, fun rs' l xs H' q hl e hx p => hQ rs' l xs H' q (Same.free e1 hl) (Same.trans e1 e) hx p⟩
end
/-! ### in of a tuple -/
theorem k_inT {X : Cx} {K : PySem.W.Frag} (hK : X.K = K) : OpR X (compareOp .In) (rIn K false) := by
  subst hK
  exact op_in_seq
theorem al_ints {H : Hp} : ∀ {ns : List Int} {xs : List V}, Al H (ns.map rInt) xs → xs = ns.map V.int
  | [], _, .nil => rfl
  | b :: bs, _, .cons h t => by
    cases h
    rw [al_ints t]
    rfl
theorem ot_inT {B : Bd} {k : Rel → Prop} {i : Int} (ns : List Int) {rs : List Rel} (hr : rs = ns.map rInt) (q : k (rBl (ns.any fun n => n == i))) : OpT B (rIn B.K false) (rInt i) (rTup B.K rs) k := fun H x y _ h1 h2 Q hQ => by
  subst hr
  cases h1
  obtain ⟨a, xs, rfl, hs, hal⟩ := h2
  have ex := al_ints hal
  subst ex
  refine ⟨a, _, rfl, .inr hs, rfl, ?_, ?_⟩
  · rw [List.all_eq_true]
    intro x hx
    obtain ⟨n, _, rfl⟩ := List.mem_map.mp hx
    rfl
  · have e : (inV (V.int i) (ns.map V.int)) = ns.any fun n => n == i := by
      unfold inV
      rw [List.any_map]
      rfl
    rw [if_neg Bool.false_ne_true, e]
    exact hQ _ _ H q rfl (Same.refl H)
/-! ### two readings of one operation -/
theorem op_or {X : Cx} {f : Value → Value → Sem Value} {r1 r2 : R2} (h1 : OpR X f r1) (h2 : OpR X f r2) : OpR X f (fun x y H Q => r1 x y H Q ∨ r2 x y H Q) := by
  intro pins s σ H x y v u Q I rx ry h
  rcases h with h | h
  · exact h1 pins s σ H x y v u Q I rx ry h
  · exact h2 pins s σ H x y v u Q I rx ry h
/-! ### the class of the one that a suite holds, with a dict -/
def rIsD (K : PySem.W.Frag) (D a dd : Addr) : List V → Hp → VK → Prop := fun xs H Q => ∃ (c : V) (cv : Value) (b : Bool) (fs : List (Str × V)), xs = [.ref a, c] ∧ ClsV c cv ∧ H dd = some (.xd fs) ∧ PySem.W.kitOne K (.ref D) cv = some b ∧ Q (.bl b) H
theorem call_isD {X : Cx} {K : PySem.W.Frag} {a D dd : Addr} {oe : Obj} {pn : List (Addr × Obj)} (hK : X.K = K) (C : ExcC K D) (hz : Zc (.ref D) (some dd) oe) (hf : ∃ vs, oe.data = .fields vs) : CallR (X.suite a ((a, oe) :: pn)) (.builtin "isinstance") (rIsD K D a dd) := by
  subst hK
  intro pins s σ H xs us Q I r h
  obtain ⟨c, cv, b, fs, rfl, kc, hd, e, q⟩ := h
  obtain ⟨u1, u2, rfl, r1, r2⟩ := vals2 r
  have e2 := kc.eq r2
  subst e2
  cases (show u1 = Value.ref a from r1)
  obtain ⟨hget, _⟩ := I.pin (a, oe) (List.mem_append.mpr (.inl List.mem_cons_self))
  obtain ⟨vs, hv⟩ := hf
  have hx : ObjOk X.prog X.w H s.heap dd (.xd fs) := I.hok dd _ hd
  obtain ⟨mA, hns, _⟩ := hx
  obtain ⟨od, ho, _⟩ := lookIn_ns hns
  have J : PySem.W.InstAt s.heap a oe D (some od) := ⟨hget, hz.1, by unfold PySem.W.notCls; rw [hv] <;> rfl, by rw [hz.2]; exact ho⟩
  have hcl : (PySem.W.clsIn X.K D).isSome = true := by
    obtain ⟨cd, hc, _⟩ := PySem.W.any_some C.hd
    rw [hc]
    rfl
  exact PySem.W.kia_one (PySem.W.kitx_exc (od := some od) (ox := oe) hcl C.hg C.hk C.hs C.ha C.hn C.ht C.hm) I.kIn J e (fun z => nomatch z) fun tk => ⟨.bl b, H, I.kept (t' := tk) fun _ _ z => z, rfl, q⟩
/-- whatever its class and dict are -/
def rIsG (K : PySem.W.Frag) (cls : Value) (d : Option Addr) (a : Addr) : List V → Hp → VK → Prop := fun xs H Q => ∃ D dd, cls = .ref D ∧ d = some dd ∧ ExcC K D ∧ rIsD K D a dd xs H Q
theorem call_isG {X : Cx} {K : PySem.W.Frag} {a : Addr} {oe : Obj} {cls : Value} {d : Option Addr} {pn : List (Addr × Obj)} (hK : X.K = K) (hz : Zc cls d oe) (hf : ∃ vs, oe.data = .fields vs) : CallR (X.suite a ((a, oe) :: pn)) (.builtin "isinstance") (rIsG K cls d a) := by
  intro pins s σ H xs us Q I r h
  obtain ⟨D, dd, rfl, rfl, C, h⟩ := h
  exact call_isD hK C hz hf pins s σ H xs us Q I r h
/-- raise C(v), the reading of what is made -/
theorem mkO_run {C : Addr} {f : Str} {σ : L2.St} {H : Hp} {v : V} {Q : XK} {i : Nat} (h1 : σ[i]? = some (some v)) (q : ∀ dx H', H' dx = some (.xd [(f, v)]) → Same H H' → Q (.ref C) (some dx) H') : tMkO C (spInit C f) [] (tCons (tVar i) tNil) σ H Q := by
  refine ⟨v, h1, ?_⟩
  refine ⟨by show 1 ≤ 1000; decide, fun a ha => ⟨a, v, rfl, upd_same, fun dx n ne => ⟨rfl, dx, [(f, v)], upd_same, by rw [upd_ne ne, upd_same], ?_, ?_⟩⟩⟩
  · rw [upd_ne ne] at n
    exact n
  · rw [upd_ne ne] at n
    refine q dx _ upd_same fun b o e => ?_
    have hb : b ≠ dx := ne_of_none e n
    have hb2 : b ≠ a := ne_of_none e ha
    rw [upd_ne hb, L2.del_ne hb2, upd_ne hb2, upd_ne hb, upd_ne hb2]
    exact e
/-! ### a list that stays + a new one -/
def rCatF : R2 := fun x y H Q => ∃ l b o xs zs, x = .ref l ∧ y = .ref b ∧ H l = some (.frz o (.lst xs)) ∧ H b = some (.lst zs) ∧ xs.length + zs.length ≤ sizeLine ∧ ∀ p, H p = none → Q (.ref p) (upd H p (.lst (xs ++ zs)))
theorem op_catF {X : Cx} : OpR X (binaryOp .Add) rCatF := by
  intro pins s σ H x y v u Q I rx ry h
  obtain ⟨l, b, o, xs, zs, rfl, rfl, hH, hB, hz, q⟩ := h
  cases rx
  cases ry
  obtain ⟨_, z, its, n, r, e⟩ := (show ObjOk X.prog X.w H s.heap l (.frz o (.lst xs)) from I.hok l _ hH)
  have hl := r.length
  obtain ⟨z2, its2, n2, r2, hl2, e2⟩ := I.lstM hB
  refine PySem.P.add_list e e2 ?_ (by rw [List.size_toArray, List.size_toArray]; omega)
  have ea : its.toArray ++ its2.toArray = (its ++ its2).toArray := by simp
  rw [ea]
  exact ⟨.ref _, _, I.lnew (t' := s.toks) (r.append r2) (by rw [List.length_append]; omega), rfl, q _ I.fresh⟩
theorem wl_catF {B : Bd} {Γ : BX.Ctx} {ta tb : TE} {kl : List Rel → Prop} (h : WpE B Γ ta fun r => ∃ rs, r = rLst rs ∧ WpL B Γ tb fun ss => rs.length + ss.length ≤ sizeLine ∧ kl (rs ++ ss)) : WpL B Γ (tOp rCatF ta tb) kl := fun σ H E Q hQ =>
  h σ H E _ fun r v H1 ⟨rs, er, h1⟩ p e1 => by
    subst er
    obtain ⟨a, o, xs, rfl, ha, hal⟩ := p
    refine h1 σ H1 (E.mono e1) _ fun ss p' ys H2 ⟨hz, hk⟩ hp' e2 hy hal' => ?_
    refine ⟨a, p', o, xs, ys, rfl, rfl, e2 _ _ ha, hy, by rw [← Paired.length hal, ← Paired.length hal']; exact hz, fun l hl => ?_⟩
    have e12 := Same.trans e1 e2
    exact hQ _ l _ _ hk (Same.free e12 hl) (Same.trans e12 (Same.new hl)) upd_same (Al.st (Same.im (Same.new hl)) (al_app (Al.st (Same.im e2) hal) hal'))
end EX
set_option Elab.async false
set_option linter.all false
set_option maxRecDepth 100000
set_option maxHeartbeats 2000000
/-! E5: defs that may raise. -/
namespace EX
open PySem PySem.Spec PySem.Calls PyProof.Rows L2 BX
/-! ### C() made to be raised -/
section
variable {X : Cx} {p pos : Pos}
theorem pmk_ex0 {C : Addr} {bmB : List Value} {B newId initId : String} {x : Str} (F : ExcBaseFacts B newId initId bmB) (q : PySem.W.excIn X.K C bmB newId = true) (gC : X.mg x = some (.ref C)) (kC : PySem.W.keepIn X.K (.ref C) = true) (r : Raises X (.ref C)) (hg : Gl X x)
    (hdb : (x == ("__debug__" : Str)) = false := by decide) : PMk X (.Call (.Name x p) [] [] pos) (fun _ H Q => Q (.ref C) none H) := by
  intro pins s σ H Q I h
  refine wpAny_Call_Name_kw (ld_glob I hg gC ?_ hdb)
  refine PySem.W.callWith_K0 I.kIn kC ?_
  show wpAny _ _ (call (.ref C) []) _ _ _
  obtain ⟨bm, N, nm, qn, bs, hdct, sn, sub, ab, col, dd, k0, k1, k2, k3, k5, mN, hC, hN, hni, T⟩ := exc_obj I.kIn q
  refine wpAny_call_exc_subT F T hC hN hni (fun h' a hm => ?_) (by show 0 ≤ sizeLine; omega)
  have hn : H a = none := I.hok.gone hm.new
  obtain ⟨t, ht, z1, z2⟩ := hm.there
  exact ⟨a, _, _, s, H, .ref C, none, rfl, I, hm.keeps, hm.new, ht, ⟨rfl, rfl⟩, rfl, rfl, hn, rfl, I.bare, r, h⟩
theorem passX {E : XK} (tk : Takes X (fun cls d _ H => E cls d H)) : Passes (L2.CX X.prog X.w) X E := passes_call tk fun _ _ _ _ h => h
end
/-! ### promises -/
/-- rels, told, refused: by the class, perhaps with a field -/
abbrev SpcX := List Rel → (Rel → Prop) → (Addr → Option (Str × V) → Prop) → Prop
/-- what is wanted where an error leaves -/
def RzK (H0 : Hp) (e : Addr → Option (Str × V) → Prop) (E : XK) : Prop :=
  (∀ C H', e C none → Same H0 H' → E (.ref C) none H') ∧ ∀ C d f v H', e C (some (f, v)) → Same H0 H' → H' d = some (.xd [(f, v)]) → E (.ref C) (some d) H'
def spX (S : SpcX) : Sp := fun vs H Q E => ∃ rs k e, Al H rs vs ∧ S rs k e ∧ (∀ r v H', k r → r.p v H' → Same H H' → Q v H') ∧ RzK H e E
theorem RzK.later {H0 H1 : Hp} {e : Addr → Option (Str × V) → Prop} {E : XK} (h : RzK H0 e E) (s : Same H0 H1) : RzK H1 e E := ⟨fun C H' z z1 => h.1 C H' z (Same.trans s z1), fun C d f v H' z z1 z2 => h.2 C d f v H' z (Same.trans s z1) z2⟩
theorem len_ofX {S : SpcX} {n : Nat} (hS : ∀ rs k e, S rs k e → rs.length = n) : ∀ vs H Q E, spX S vs H Q E → vs.length = n := fun vs H Q E ⟨rs, k, e, hal, hs, _⟩ => by
  rw [← Paired.length hal]
  exact hS rs k e hs
theorem read_ofX (P : Program) (w : World) (K : PySem.W.Frag) {H : Hp} {n : Nat} {vs : List V} {N : List Str} {t : TS} {S : SpcX} {Q : VK} {E : XK} (h : spX S vs H Q E) (hn : N.length = n)
    (hw : ∀ rs k e (D : Ends), S rs k e → RtK (bd P w K H) k D → NxK (bd P w K H) k D → RzK H e E → WpS (bd P w K H) D (ctx0 n rs) t) : t { nx := fun _ H' => Q .non H', rt := Q } (L2.start N vs) H := by
  obtain ⟨rs, k, e, hal, hs, hQ, hE⟩ := h
  exact hw rs k e _ hs (fun r v H' q p e => hQ r v H' q p e) (fun σ H' q e => hQ rNon .non H' q rfl e) hE _ _ (env0 (B := bd P w K H) (fun _ => trivial) hn hal)
section
variable {B : Bd} {Γ : BX.Ctx} {D : Ends} {k : Rel → Prop}
/-- raise C() -/
theorem ws_rz0 {C : Addr} {e : Addr → Option (Str × V) → Prop} {E : XK} {tz : TS} (hE : RzK B.H0 e E) (h : e C none) : WpS B D Γ (tSeq (fun _ _ H => E (.ref C) none H) tz) := fun σ H En => hE.1 C H h En.ex
/-- a call of such a def, its error let out -/
theorem we_callX {S : SpcX} {E : XK} {tA : TA} {e : Addr → Option (Str × V) → Prop} (hE : RzK B.H0 e E) (h : WpA B Γ tA fun rs => S rs k e) : WpE B Γ (tCall (spX S) [] E tA) k := fun σ H En Q hQ =>
  h σ H En _ fun rs vs H1 h1 p1 e1 => by
    show spX S (vs ++ []) H1 Q E
    rw [List.append_nil]
    exact ⟨rs, k, e, p1, h1, fun r v H' q p e => hQ r v H' q p (Same.trans e1 e), hE.later (Same.trans En.ex e1)⟩
end
/-- anything at all -/
def rAny : Rel := ⟨fun _ _ => True, fun _ h => h⟩
theorem we_top {B : Bd} {Γ : BX.Ctx} {te : TE} {k : Rel → Prop} (h : WpE B Γ te fun _ => k rAny) : WpE B Γ te k := fun σ H E Q hQ => h σ H E Q fun r v H' hk _ e => hQ _ v H' hk trivial e
end EX
set_option Elab.async false
set_option linter.all false
set_option maxRecDepth 100000
set_option maxHeartbeats 2000000
/-! E6: things of any kind, told by data. -/
namespace EX
open PySem PySem.Spec PySem.Calls PyProof.Rows L2 BX
inductive Dt where
  | non
  | bl (b : Bool)
  | int (i : Int)
  | str (s : Str)
  | tup (l : List Dt)
  | lst (l : List Dt)
  | dic
/-- a dict of which nothing is asked -/
def rDicA (P : Program) (w : World) : Rel := ⟨fun v H => (∃ a o xs, v = .ref a ∧ H a = some (.frz o (.dK xs))) ∨ ∃ a o es, v = .ref a ∧ H a = some (.frz o (DXO P w a es)),
  fun im h => h.imp (fun ⟨a, o, xs, e, z⟩ => ⟨a, o, xs, e, im _ _ frz_nc z⟩) fun ⟨a, o, xs, e, z⟩ => ⟨a, o, xs, e, im _ _ frz_nc z⟩⟩
section
variable (P : Program) (w : World) (K : PySem.W.Frag)
mutual
def rDt : Dt → Rel
  | .non => rNon
  | .bl b => rBl b
  | .int i => rInt i
  | .str s => rStr s
  | .tup l => rTup K (rDts l)
  | .lst l => rLst (rDts l)
  | .dic => rDicA P w
def rDts : List Dt → List Rel
  | [] => []
  | d :: l => rDt d :: rDts l
end
theorem rDts_map : ∀ l : List Dt, rDts P w K l = l.map (rDt P w K)
  | [] => by rw [rDts]; rfl
  | d :: l => by rw [rDts, rDts_map l]; rfl
theorem rDt_tup (l : List Dt) : rDt P w K (.tup l) = rTup K (l.map (rDt P w K)) := by rw [rDt, rDts_map]
theorem rDt_lst (l : List Dt) : rDt P w K (.lst l) = rLst (l.map (rDt P w K)) := by rw [rDt, rDts_map]
theorem rDt_int (i : Int) : rDt P w K (.int i) = rInt i := by rw [rDt]
theorem rDt_bl (b : Bool) : rDt P w K (.bl b) = rBl b := by rw [rDt]
theorem rDt_str (s : Str) : rDt P w K (.str s) = rStr s := by rw [rDt]
theorem rDt_non : rDt P w K .non = rNon := by rw [rDt]
theorem rDt_dic : rDt P w K .dic = rDicA P w := by rw [rDt]
end
def tyD : Dt → String
  | .non => "NoneType"
  | .bl _ => "bool"
  | .int _ => "int"
  | .str _ => "str"
  | .tup _ => "tuple"
  | .lst _ => "list"
  | .dic => "dict"
theorem tyD_ok {B : Bd} (d : Dt) : HasTy B (rDt B.P B.w B.K d) (.type (tyD d)) := by
  cases d with
  | non =>
    rw [rDt_non]
    intro H v h
    cases h
    exact .inl (.base .non)
  | bl b => rw [rDt_bl]; exact ty_bl
  | int i => rw [rDt_int]; exact ty_int
  | str s => rw [rDt_str]; exact ty_str
  | tup l => rw [rDt_tup]; exact ty_tup
  | lst l => rw [rDt_lst]; exact ty_lst
  | dic =>
    rw [rDt_dic]
    intro H v h
    rcases h with ⟨a, o, xs, rfl, h⟩ | ⟨a, o, es, rfl, h⟩
    · exact .inl (.fDict h)
    · exact .inr ⟨rfl, a, es, rfl, .inr ⟨o, h⟩⟩
def isInst (d : Dt) (T : String) : Bool := tyD d == T || (tyD d == "bool" && T == "int")
theorem kit_int {K : PySem.W.Frag} (d : Dt) : PySem.W.kitOne K (.type (tyD d)) (.type "int") = some (isInst d "int") := by
  cases d with
  | non => exact kit_ty (a := "NoneType") (r := false) (by decide +kernel)
  | bl b => exact kit_ty (a := "bool") (r := true) (by decide +kernel)
  | int i => exact kit_ty (a := "int") (r := true) (by decide +kernel)
  | str s => exact kit_ty (a := "str") (r := false) (by decide +kernel)
  | tup l => exact kit_ty (a := "tuple") (r := false) (by decide +kernel)
  | lst l => exact kit_ty (a := "list") (r := false) (by decide +kernel)
  | dic => exact kit_ty (a := "dict") (r := false) (by decide +kernel)
theorem kit_bool {K : PySem.W.Frag} (d : Dt) : PySem.W.kitOne K (.type (tyD d)) (.type "bool") = some (isInst d "bool") := by
  cases d with
  | non => exact kit_ty (a := "NoneType") (r := false) (by decide +kernel)
  | bl b => exact kit_ty (a := "bool") (r := true) (by decide +kernel)
  | int i => exact kit_ty (a := "int") (r := false) (by decide +kernel)
  | str s => exact kit_ty (a := "str") (r := false) (by decide +kernel)
  | tup l => exact kit_ty (a := "tuple") (r := false) (by decide +kernel)
  | lst l => exact kit_ty (a := "list") (r := false) (by decide +kernel)
  | dic => exact kit_ty (a := "dict") (r := false) (by decide +kernel)
theorem kit_tuple {K : PySem.W.Frag} (d : Dt) : PySem.W.kitOne K (.type (tyD d)) (.type "tuple") = some (isInst d "tuple") := by
  cases d with
  | non => exact kit_ty (a := "NoneType") (r := false) (by decide +kernel)
  | bl b => exact kit_ty (a := "bool") (r := false) (by decide +kernel)
  | int i => exact kit_ty (a := "int") (r := false) (by decide +kernel)
  | str s => exact kit_ty (a := "str") (r := false) (by decide +kernel)
  | tup l => exact kit_ty (a := "tuple") (r := true) (by decide +kernel)
  | lst l => exact kit_ty (a := "list") (r := false) (by decide +kernel)
  | dic => exact kit_ty (a := "dict") (r := false) (by decide +kernel)
theorem kit_list {K : PySem.W.Frag} (d : Dt) : PySem.W.kitOne K (.type (tyD d)) (.type "list") = some (isInst d "list") := by
  cases d with
  | non => exact kit_ty (a := "NoneType") (r := false) (by decide +kernel)
  | bl b => exact kit_ty (a := "bool") (r := false) (by decide +kernel)
  | int i => exact kit_ty (a := "int") (r := false) (by decide +kernel)
  | str s => exact kit_ty (a := "str") (r := false) (by decide +kernel)
  | tup l => exact kit_ty (a := "tuple") (r := false) (by decide +kernel)
  | lst l => exact kit_ty (a := "list") (r := true) (by decide +kernel)
  | dic => exact kit_ty (a := "dict") (r := false) (by decide +kernel)
theorem kit_dict {K : PySem.W.Frag} (d : Dt) : PySem.W.kitOne K (.type (tyD d)) (.type "dict") = some (isInst d "dict") := by
  cases d with
  | non => exact kit_ty (a := "NoneType") (r := false) (by decide +kernel)
  | bl b => exact kit_ty (a := "bool") (r := false) (by decide +kernel)
  | int i => exact kit_ty (a := "int") (r := false) (by decide +kernel)
  | str s => exact kit_ty (a := "str") (r := false) (by decide +kernel)
  | tup l => exact kit_ty (a := "tuple") (r := false) (by decide +kernel)
  | lst l => exact kit_ty (a := "list") (r := false) (by decide +kernel)
  | dic => exact kit_ty (a := "dict") (r := true) (by decide +kernel)
def isIntD : Dt → Bool
  | .int _ => true
  | _ => false
def isTupD : Dt → Bool
  | .tup _ => true
  | _ => false
theorem isInst_int (d : Dt) : (isInst d "int" && !isInst d "bool") = isIntD d := by cases d <;> rfl
theorem isInst_tup (d : Dt) : isInst d "tuple" = isTupD d := by cases d <;> rfl
section
variable {B : Bd} {k : Rel → Prop}
theorem ct_isiI {d : Dt} (q : k (rBl (isInst d "int"))) : CaT B (rIsiB B.P B.w B.K) [rDt B.P B.w B.K d, rC (.ty "int")] k := ct_isi (tyD_ok d) (.ty _) (kit_int d) q
theorem ct_isiBl {d : Dt} (q : k (rBl (isInst d "bool"))) : CaT B (rIsiB B.P B.w B.K) [rDt B.P B.w B.K d, rC (.ty "bool")] k := ct_isi (tyD_ok d) (.ty _) (kit_bool d) q
theorem ct_isiTu {d : Dt} (q : k (rBl (isTupD d))) : CaT B (rIsiB B.P B.w B.K) [rDt B.P B.w B.K d, rC (.ty "tuple")] k := ct_isi (tyD_ok d) (.ty _) (kit_tuple d) (by rw [isInst_tup]; exact q)
end
end EX
set_option Elab.async false
set_option linter.all false
set_option maxRecDepth 100000
set_option maxHeartbeats 2000000
/-! E7: an __init__ that may raise. -/
namespace EX
open PySem PySem.Spec PySem.Calls PyProof.Rows L2 BX
/-- the promise of an __init__ that sets fields (where ok) or raises -/
def spMkX (C : Addr) (S : List Rel → List (Str × Rel) → Prop → (Addr → Option (Str × V) → Prop) → Prop) : Sp := fun vs H Q E => ∃ x dx ws rs fs ok e, vs = .ref x :: ws ∧ H x = some (.ins C dx []) ∧ Al H rs ws ∧ S rs fs ok e ∧
  (ok → ∀ H1 xs, Same H H1 → Paired (fun (p : Str × Rel) (q : Str × V) => p.1 = q.1 ∧ p.2.p q.2 (upd H1 x (.ins C dx xs))) fs xs → Q .non (upd H1 x (.ins C dx xs))) ∧ RzK H e E
theorem we_makeX {B : Bd} {Γ : BX.Ctx} {k : Rel → Prop} {C : Addr} {S : List Rel → List (Str × Rel) → Prop → (Addr → Option (Str × V) → Prop) → Prop} {E : XK} {t : TA} {e : Addr → Option (Str × V) → Prop} (hE : RzK B.H0 e E)
    (h : WpA B Γ t fun rs => ∃ fs ok, S rs fs ok e ∧ (ok → k (rIns C fs))) : WpE B Γ (tMake C (spMkX C S) [] E t) k := fun σ H En Q hQ =>
  h σ H En _ fun rs vs H1 ⟨fs, ok, hs, hk⟩ p e1 x dx hx hdx ne => by
    have n1 : Same H1 (upd (upd H1 dx (.own x)) x (.ins C dx [])) := Same.trans (Same.new hdx) (Same.new (by rw [upd_ne (Ne.symm ne)]; exact hx))
    refine ⟨x, dx, vs, rs, fs, ok, e, by rw [List.append_nil], upd_same, p.st (Same.im n1), hs, fun hok H2 xs s2 hp => ⟨rfl, ?_⟩, hE.later (Same.trans En.ex (Same.trans e1 n1))⟩
    have s3 : Same H1 (upd H2 x (.ins C dx xs)) := Same.put (fun b u q => s2 b u (n1 b u q)) hx
    exact hQ _ _ _ (hk hok) ⟨x, dx, xs, rfl, upd_same, hp⟩ (Same.trans e1 s3)
theorem mk_ofX (P : Program) (w : World) (K : PySem.W.Frag) {H : Hp} {n : Nat} {vs : List V} {N : List Str} {t : TS} {C : Addr} {S : List Rel → List (Str × Rel) → Prop → (Addr → Option (Str × V) → Prop) → Prop} {Q : VK} {E : XK} (h : spMkX C S vs H Q E) (hn : N.length = n)
    (hw : ∀ rs fs ok e (D : Ends) x dx, S rs fs ok e → (ok → FinK (bdI P w K H x C dx) x C dx fs D) → RzK H e E → WpS (bdI P w K H x C dx) D (ctx0 n (rC (.ref x) :: rs)) t) : t { nx := fun _ H' => Q .non H', rt := Q } (L2.start N vs) H := by
  obtain ⟨x, dx, ws, rs, fs, ok, e, rfl, hx, hal, hs, hQ, hE⟩ := h
  have hl : rs.length = ws.length := Paired.length hal
  have e0 : BX.Env (bd P w K H) (ctx0 n (rC (.ref x) :: rs)) (L2.start N (.ref x :: ws)) H := env0 (B := bd P w K H) (fun _ => trivial) hn (.cons rfl hal)
  exact hw rs fs ok e _ x dx hs (fun hok σ H1 xs s1 g p => hQ hok H1 xs s1 p) hE _ _ ⟨e0.len, e0.ex, hx, fun i t e => let ⟨ov, h1, h2⟩ := e0.ty i t e; ⟨ov, h1, by cases t <;> exact h2⟩, e0.dis⟩
theorem len_mkX {C : Addr} {S : List Rel → List (Str × Rel) → Prop → (Addr → Option (Str × V) → Prop) → Prop} {n : Nat} (hS : ∀ rs fs ok e, S rs fs ok e → rs.length + 1 = n) : ∀ vs H Q E, spMkX C S vs H Q E → vs.length = n := fun vs H Q E ⟨x, dx, ws, rs, fs, ok, e, z, _, hal, hs, _⟩ => by
  rw [z, List.length_cons, ← Paired.length hal]
  exact hS rs fs ok e hs
/-- raise C(v), C with its own __init__, the field's value being in slot i -/
theorem ws_rzF {B : Bd} {Γ : BX.Ctx} {D : Ends} {C : Addr} {f : Str} {te : TE} {e : Addr → Option (Str × V) → Prop} {E : XK} {tz : TS} (hE : RzK B.H0 e E) (h : WpE B Γ te fun r => ∃ v, r = rC v ∧ e C (some (f, v))) :
    WpS B D Γ (tSeq (fun _ σ H => tMkO C (spInit C f) [] (tCons te tNil) σ H fun cls d H' => E cls d H') tz) := fun σ H En => by
  refine h σ H En _ fun r v H1 ⟨u, er, he⟩ p e1 => ?_
  subst er
  have ev : v = u := p
  subst ev
  refine ⟨by show 1 ≤ 1000; decide, fun a ha => ⟨a, v, rfl, upd_same, fun dx n ne => ⟨rfl, dx, [(f, v)], upd_same, by rw [upd_ne ne, upd_same], ?_, ?_⟩⟩⟩
  · rw [upd_ne ne] at n
    exact n
  · rw [upd_ne ne] at n
    refine hE.2 C dx f v _ he (Same.trans En.ex (Same.trans e1 fun b o e => ?_)) upd_same
    have hb : b ≠ dx := ne_of_none e n
    have hb2 : b ≠ a := ne_of_none e ha
    rw [upd_ne hb, L2.del_ne hb2, upd_ne hb2, upd_ne hb, upd_ne hb2]
    exact e
theorem ndx_lst {rs : List Rel} (h : ∀ r ∈ rs, Ndx r) : Ndx (rLst rs) := fun v H x C dx o p hx => by
  obtain ⟨a, ob, xs, rfl, ha, hal⟩ := p
  refine ⟨a, ob, xs, rfl, by rw [upd_ne (fun z => by rw [z, hx] at ha; cases ha)]; exact ha, ?_⟩
  clear ha
  induction hal with
  | nil => exact .nil
  | @cons r v rs vs h1 t ih => exact .cons (h r List.mem_cons_self v H x C dx o h1 hx) (ih fun r hr => h r (List.mem_cons_of_mem _ hr))
section
variable {P : Program} {w : World} {K : PySem.W.Frag}
mutual
theorem ndx_dt : ∀ d : Dt, Ndx (rDt P w K d)
  | .non => by rw [rDt]; exact ndx_c
  | .bl b => by rw [rDt]; exact ndx_c
  | .int i => by rw [rDt]; exact ndx_c
  | .str s => by rw [rDt]; exact ndx_c
  | .tup l => by rw [rDt]; exact ndx_tup (ndx_dts l)
  | .lst l => by rw [rDt]; exact ndx_lst (ndx_dts l)
  | .dic => by
    rw [rDt]
    intro v H x C dx o p hx
    rcases p with ⟨a, ob, xs, rfl, h⟩ | ⟨a, ob, es, rfl, h⟩
    · exact .inl ⟨a, ob, xs, rfl, by rw [upd_ne (fun z => by rw [z, hx] at h; cases h)]; exact h⟩
    · exact .inr ⟨a, ob, es, rfl, by rw [upd_ne (fun z => by rw [z, hx] at h; cases h)]; exact h⟩
theorem ndx_dts : ∀ (l : List Dt), ∀ r ∈ rDts P w K l, Ndx r
  | [], r, h => by
    rw [rDts] at h
    cases h
  | d :: l, r, h => by
    rw [rDts] at h
    rcases List.mem_cons.mp h with rfl | h
    · exact ndx_dt d
    · exact ndx_dts l r h
end
end
end EX
set_option Elab.async false
set_option linter.all false
set_option maxRecDepth 100000
set_option maxHeartbeats 2000000
/-! E8: min of a tuple of ints; a method of an instance. -/
namespace EX
open PySem PySem.Spec PySem.Calls PyProof.Rows L2 BX
theorem min_tup {prog : Program} {w : World} {A : Around} {E : Value → Shared → Prop} {s : Shared} {a : Addr} {its : List Value} {ns : List Int} {Q : Value → Shared → Prop} (hh : A.handled = none) (hl : s.heap.IsTuple a its.toArray) (hi : IntsAre its ns) (hne : 0 < ns.length)
    (h : ∀ h' tk M t', (∀ b o, s.heap.get? b = some o → h'.get? b = some o) → M ∈ ns → (∀ a, a ∈ ns → M ≤ a) → Q (.int M t') { s with heap := h', toks := tk }) : wpAny (model prog w) A (call (.builtin "min") [.ref a]) Q E s := by
  have hlt : a < s.heap.objs.size := by obtain ⟨_, e, _⟩ := hl; exact Heap.lt_size e
  have hlen : its.length = ns.length := by
    clear hl hne h
    induction hi with
    | nil => rfl
    | cons _ _ _ ih => rw [List.length_cons, List.length_cons, ih]
  have at_ : ∀ (i : Nat) v, its.toArray[i]? = some v → ∃ t, v = Value.int (ns.getD i 0) t := by
    intro i v hv
    have hv' : its[i]? = some v := by simpa using hv
    clear hv hl hne h hlt hlen
    induction hi generalizing i with
    | nil => simp at hv'
    | @cons n t r1 r2 _ ih =>
      cases i with
      | zero => simp at hv'; exact ⟨_, hv'.symm⟩
      | succ i => simpa using ih i (by simpa using hv')
  refine call_min_walk (wpAny_pyIter_tuple hl ⟨s.heap.objs.size, _, _, _, _, _, _, rfl, Walks.tuple (A := A.in1) hh s.heap.objs.size a (Nat.ne_of_lt hlt) its.toArray, ⟨⟨_, Heap.get?_push_size _ rfl, rfl, rfl⟩, hl.at fun o e => Heap.get?_push_of_some _ e⟩, ?_, by simpa [hlen] using hne, CmpOf.ints_lt (fun i => ns.getD i 0) at_, fun v h' tk hP hk => ?_⟩)
  · intro b hb
    show b < (s.heap.push _).objs.size
    rw [Heap.size_push]
    rcases List.mem_cons.mp hb with rfl | hb
    · exact Nat.lt_succ_self _
    · rcases List.mem_cons.mp hb with rfl | hb
      · exact Nat.lt_succ_of_lt hlt
      · cases hb
  · obtain ⟨t, rfl⟩ := at_ _ _ hP
    obtain ⟨h1, h2⟩ := argBest_lt (fun i => ns.getD i 0) (its.toArray.size - 1)
    have hsz : its.toArray.size = ns.length := by simpa using hlen
    refine h h' tk _ t (fun b o e => hk b o (fun hm => ?_) (Heap.get?_push_of_some _ e)) ?_ fun y hy => ?_
    · rw [List.mem_singleton.mp hm] at e
      exact absurd (Heap.lt_size e) (Nat.lt_irrefl _)
    · exact PySem.getD_mem (by omega)
    · obtain ⟨j, hj, rfl⟩ := mem_getD hy
      exact h2 j (by omega)
def rMinT (K : PySem.W.Frag) : List V → Hp → VK → Prop := fun vs H Q => ∃ (a : Addr) (ns : List Int), vs = [V.ref a] ∧ SqT K H a (ns.map V.int) ∧ 0 < ns.length ∧ ∀ m, m ∈ ns → (∀ y, y ∈ ns → m ≤ y) → Q (.int m) H
theorem cr_minT {X : Cx} (hc : X.calm = true) : CallR X (.builtin "min") (rMinT X.K) := by
  intro pins s σ H xs us Q I r h
  obtain ⟨a, ns, rfl, hs, h0, q⟩ := h
  obtain rfl := Vals.ref1 r
  obtain ⟨its, rv, ht, _⟩ := I.tuple hs
  exact min_tup (I.ok.hd hc) ht (intsAre_of rv) h0 fun h' tk M t' hk hm hle => ⟨.int M, H, I.kept (t' := tk) hk, ⟨t', rfl⟩, q M hm hle⟩
theorem ct_minT {B : Bd} {k : Rel → Prop} {ns : List Int} (h0 : 0 < ns.length) (q : ∀ m, m ∈ ns → (∀ y, y ∈ ns → m ≤ y) → k (rInt m)) : CaT B (rMinT B.K) [rKey B.K ns] k := fun H vs _ h Q hQ => by
  cases h with
  | cons h t =>
    cases t
    obtain ⟨a, xs, rfl, hs, hal⟩ := h
    rw [al_ints hal] at hs
    exact ⟨a, ns, rfl, hs, h0, fun m hm hle => hQ _ _ H (q m hm hle) rfl (Same.refl H)⟩
theorem k_minT {X : Cx} {K : PySem.W.Frag} (hK : X.K = K) (hc : X.calm = true) : CallR X (.builtin "min") (rMinT K) := by subst hK; exact cr_minT hc
theorem lk_none {f : Str} {H : Hp} {fs : List (Str × Rel)} {xs : List (Str × V)} (hp : Paired (fun (p : Str × Rel) (q : Str × V) => p.1 = q.1 ∧ p.2.p q.2 H) fs xs) (e : fs.lookup f = none) : xs.lookup f = none := by
  induction hp with
  | nil => rfl
  | @cons p q l1 l2 h t ih =>
    obtain ⟨n, r⟩ := p
    obtain ⟨m, v⟩ := q
    obtain ⟨e1, e2⟩ := h
    subst e1
    by_cases c : f = n
    · subst c
      simp [List.lookup] at e
    · have cb : (f == n) = false := by simpa using c
      simp only [List.lookup, cb] at e ⊢
      exact ih e
theorem we_meth {B : Bd} {Γ : BX.Ctx} {k : Rel → Prop} {C : Addr} {m : Str} {S : Spc} {E : XK} {ta : TE} {t : TA}
    (h : WpE B Γ ta fun r => ∃ fs, r = rIns C fs ∧ fs.lookup m = none ∧ WpA B Γ t fun rs => S (rIns C fs :: rs) k) : WpE B Γ (tMeth C m (spOf S) [] E ta t) k := fun σ H En Q hQ =>
  h σ H En _ fun r v H1 ⟨fs, er, hl, hk⟩ p1 e1 => by
    subst er
    have p1' := p1
    obtain ⟨a, dx, xs, rfl, ha, hp⟩ := p1
    refine ⟨a, dx, xs, rfl, ha, lk_none hp hl, hk σ H1 (En.mono e1) _ fun rs vs H2 h2 p2 e2 => ?_⟩
    rw [List.append_nil]
    exact ⟨_, k, .cons ((rIns C fs).st (Same.im e2) p1') p2, h2, fun r v H' q p e => hQ r v H' q p (Same.trans e1 (Same.trans e2 e))⟩
end EX
set_option Elab.async false
set_option linter.all false
set_option maxRecDepth 100000
set_option maxHeartbeats 4000000
/-! E9: a tuple backwards; tuples and lists times a number. -/
namespace HT
open PySem PySem.Spec PyProof.Rows
section
variable {prog : Program} {w : World} {A : Around} {E : Value → Shared → Prop} {s : Shared}
theorem places_rev (n : Nat) : Builtin.Slice.slicePlaces ((n : Int) - 1) (-1) (-1) = n := by
  unfold Builtin.Slice.slicePlaces
  rw [if_neg (by decide)]
  by_cases h : (n : Int) - 1 > -1
  · rw [if_pos h, show (- -1 : Int) = 1 by decide, Int.ediv_one]
    omega
  · rw [if_neg h]
    omega
theorem pick_rev (xs : Array Value) : ((List.range xs.size).filterMap fun (m : Nat) => xs[(((xs.size : Int) - 1) + (m : Int) * (-1)).toNat]?).toArray = xs.toList.reverse.toArray := by
  congr 1
  apply List.ext_getElem?
  intro i
  have e : ∀ l : List Nat, (∀ m ∈ l, m < xs.size) → l.filterMap (fun (m : Nat) => xs[(((xs.size : Int) - 1) + (m : Int) * (-1)).toNat]?) = l.map fun m => xs.toList.getD (xs.size - 1 - m) .none := by
    intro l hl
    induction l with
    | nil => rfl
    | cons m l ih =>
      have hm := hl m List.mem_cons_self
      have hz : (((xs.size : Int) - 1) + (m : Int) * (-1)).toNat = xs.size - 1 - m := by omega
      have hlt : xs.size - 1 - m < xs.size := by omega
      rw [List.filterMap_cons, hz, Array.getElem?_eq_getElem hlt, List.map_cons, ih fun m hm => hl m (List.mem_cons_of_mem _ hm)]
      congr 1
      rw [List.getD_eq_getElem?_getD, Array.getElem?_toList, Array.getElem?_eq_getElem hlt]
      rfl
  rw [e _ fun m hm => List.mem_range.mp hm, List.getElem?_map]
  by_cases hi : i < xs.size
  · rw [List.getElem?_range hi, List.getElem?_reverse (by rw [Array.length_toList]; exact hi), Array.length_toList]
    show some (xs.toList.getD (xs.size - 1 - i) .none) = _
    rw [List.getD_eq_getElem?_getD, Array.getElem?_toList, Array.getElem?_eq_getElem (by omega)]
    rfl
  · rw [List.getElem?_eq_none (by rw [List.length_range]; omega), List.getElem?_eq_none (by rw [List.length_reverse, Array.length_toList]; omega)]
    rfl
theorem getItem_tuple_rev {t sl : Addr} {items : Array Value} {tk : Tok} {Q : Value → Shared → Prop} (ht : IsTup s.heap t items) (hs : s.heap.IsSliceOf sl .none .none (.int (-1) tk))
    (h : Q (.ref s.heap.objs.size) { s with heap := s.heap.push { cls := .type "tuple", data := .seq items.toList.reverse.toArray } })
    (hsz : items.size ≤ sizeLine) : wpAny (model prog w) A (getItem (.ref t) (.ref sl)) Q E s := by
  have htake : sizeOk (.seq items.toList.reverse.toArray) := by
    show items.toList.reverse.toArray.size ≤ sizeLine
    rw [List.size_toArray, List.length_reverse, Array.length_toList]
    exact hsz
  obtain ⟨os, hos, hcs, hds⟩ := id hs
  have hTs : s.TypeIs (.ref sl) "slice" := ⟨os, hos, hcs⟩
  unfold getItem
  try with_reducible refine wpAny_holding ?_
  first | refine wpAny_bind (wpAny_pure ?_) | skip
  refine wpAny_bind (wpAny_sequenceKey ht.typeIs (by decide) ?_)
  refine wpAny_bind (wpAny_callSpecial?_slot (name := Str.ofString "__getitem__") ht.typeIs PyProof.Rows.slot_tuple_getitem
    (wpAny_call_entry PyProof.Rows.slot_tuple_getitem ht.typeIs entry_tuple_getitem ?_ (args_tuple_getitem _ _)))
  show wpAny _ _ (Builtin.Tuple.tupleItemsOf (.ref t) >>= _) _ _ s
  refine wpAny_bind (tupleItemsOf_ ht ?_)
  refine wpAny_bind (wpAny_typeOf hTs ?_)
  rw [if_pos (by decide)]
  refine wpAny_bind (?_ : wpAny _ _ (Builtin.Slice.sliceApplied (.ref sl) (pure (items.size : Int))) _ _ s)
  unfold Builtin.Slice.sliceApplied Builtin.Slice.sliceFields
  refine wpAny_bind (wpAny_bind (wpAny_field hos hds (x := .none) rfl (wpAny_bind (wpAny_field hos hds (x := .none) rfl (wpAny_bind (wpAny_field hos hds (x := .int (-1) tk) rfl (wpAny_pure ?_)))))))
  refine wpAny_bind (slicePart_int ?_)
  show wpAny _ _ (if ((-1 : Int) == 0) = true then _ else _) _ _ s
  rw [if_neg (by decide)]
  refine wpAny_bind (slicePart_none (wpAny_bind (slicePart_none (wpAny_bind (wpAny_pure ?_)))))
  show wpAny _ _ (pure (((items.size : Int) - 1), (-1 : Int), Builtin.Slice.slicePlaces ((items.size : Int) - 1) (-1) (-1))) _ _ s
  rw [places_rev]
  refine wpAny_pure ?_
  have hno : ¬ ((((items.size : Int) - 1) == 0 && (-1 : Int) == 1 && items.size == items.size) = true) := by
    rw [show ((-1 : Int) == 1) = false by decide, Bool.and_false, Bool.false_and]
    exact Bool.false_ne_true
  show wpAny _ _ (if (((items.size : Int) - 1) == 0 && (-1 : Int) == 1 && items.size == items.size) = true then _ else _) _ _ s
  rw [if_neg hno, pick_rev]
  first
    | exact wpAny_bind (m := Builtin.Tuple.tupleExact _) (wpAny_newObj_type (wpAny_pure ⟨_, rfl, wpAny_pure h⟩) htake)
    | exact wpAny_bind (m := Builtin.Tuple.tupleExact _) (wpAny_newObj_type (wpAny_bind (wpAny_pure (wpAny_pure ⟨_, rfl, wpAny_pure h⟩))) htake)
    | exact wpAny_bind (wpAny_bind (m := Builtin.Tuple.tupleExact _) (wpAny_newObj_type (wpAny_pure (wpAny_pure ⟨_, rfl, wpAny_pure h⟩)) htake))
    | exact wpAny_bind (wpAny_bind (m := Builtin.Tuple.tupleExact _) (wpAny_newObj_type (wpAny_pure ⟨_, rfl, wpAny_pure h⟩) htake))
end
end HT

namespace EX
open PySem PySem.Spec PySem.Calls PyProof.Rows L2 BX
/-! ### t[::-1] -/
def tRevT (K : PySem.W.Frag) (te : TE) : TE := fun σ H Q => te σ H fun x H1 => ∃ a xs, x = .ref a ∧ SqT K H1 a xs ∧ ∀ p, H1 p = none → Q (.ref p) (upd H1 p (.tup xs.reverse))
theorem pe_revT {X : Cx} {K : PySem.W.Frag} {e : Expr} {te : TE} {k : Nat} {p1 p2 p3 pos : Pos} (hK : X.K = K) (he : PE X e te) : PE X (.Subscript e (.Slice none none (some (.UnaryOp .USub (.Constant (.int 1) k p1) p2)) p3) pos) (tRevT K te) := by
  subst hK
  refine ⟨fun pins s σ H Q I h => ?_⟩
  refine Subscript_ (thn (he.run pins s σ H _ I h) fun v s1 ⟨x, H1, I1, r1, q1⟩ => ?_)
  obtain ⟨a, xs, ex, hx, q⟩ := q1
  subst ex
  cases r1
  have hst : PO X (some (.UnaryOp .USub (.Constant (.int 1) k p1) p2)) (tPart (tUn (rU fun i => .int (-i)) (tC (.int 1)))) := po_some (pe_un un_neg pe_int)
  refine wpAny_Slice (thn (po_none.run pins s1 σ H1 (fun o H2 => o = none ∧ H2 = H1) I1 ⟨rfl, rfl⟩) fun vl s2 ⟨l, H2, I2, pl, el, e2⟩ => ?_)
  subst el e2
  refine thn (po_none.run pins s2 σ H2 (fun o H3 => o = none ∧ H3 = H2) I2 ⟨rfl, rfl⟩) fun vu s3 ⟨u, H3, I3, pu, eu, e3⟩ => ?_
  subst eu e3
  refine thn (hst.run pins s3 σ H3 (fun o H4 => o = some (-1) ∧ H4 = H3) I3 ⟨1, rfl, -1, rfl, rfl, rfl⟩) fun vs s4 ⟨o, H4, I4, ps, eo, e4⟩ => ?_
  subst eo e4
  cases pl
  cases pu
  cases ps with
  | int _ tk =>
    have I5 : Inv X pins σ H4 { s4 with heap := s4.heap.push { cls := .type "slice", data := .fields #[.none, .none, .int (-1) tk] } } := I4.kept (t' := s4.toks) fun b ob q => Heap.get?_push_of_some _ q
    obtain ⟨its, r, ht, hz⟩ := I5.tuple hx
    have hlen := r.length
    show wpAny (model X.prog X.w) X.A (subscriptTail e (.Slice none none (some (.UnaryOp .USub (.Constant (.int 1) k p1) p2)) p3) (.ref a) (.ref s4.heap.objs.size)) (EP X pins σ Q) X.xe { s4 with heap := s4.heap.push { cls := .type "slice", data := .fields #[.none, .none, .int (-1) tk] } }
    refine tail_any (ops := [.ref a, .ref s4.heap.objs.size]) ht.typeIs (PyProof.Rows.slot_tuple_getitem.lookup) ?_ (by with_unfolding_all rfl)
    refine HT.getItem_tuple_rev (tk := tk) ht (Heap.IsSliceOf.new _ .none .none (.int (-1) tk)) ?_ (by rw [List.size_toArray]; omega)
    refine ⟨.ref _, _, I5.laid (t' := s4.toks) (o := .tup xs.reverse) (fun b ob q => Heap.get?_push_of_some _ q) (Nat.le_refl _) ?_, rfl, q _ (I5.hok.fresh (Nat.le_refl _))⟩
    exact ⟨by rw [List.length_reverse]; exact hz, _, r.reverse, ⟨_, Heap.get?_push_size _ rfl, rfl, 0, rfl⟩⟩
theorem al_rev {H : Hp} : ∀ {rs : List Rel} {xs : List V}, Al H rs xs → Al H rs.reverse xs.reverse
  | _, _, .nil => .nil
  | _, _, .cons h t => by
    rw [List.reverse_cons, List.reverse_cons]
    exact BX.al_app (al_rev t) (.cons h .nil)
theorem al_rep {H : Hp} {rs : List Rel} {xs : List V} (h : Al H rs xs) : ∀ n : Nat, Al H (List.replicate n rs).flatten (List.replicate n xs).flatten
  | 0 => .nil
  | n + 1 => by
    rw [List.replicate_succ, List.replicate_succ, List.flatten_cons, List.flatten_cons]
    exact BX.al_app h (al_rep h n)
section
variable {B : Bd} {Γ : BX.Ctx} {D : Ends} {k : Rel → Prop}
theorem we_revT {te : TE} (h : WpE B Γ te fun r => ∃ rs, r = rTup B.K rs ∧ k (rTup B.K rs.reverse)) : WpE B Γ (tRevT B.K te) k := fun σ H En Q hQ =>
  h σ H En _ fun r v H1 ⟨rs, er, hk⟩ p e1 => by
    subst er
    obtain ⟨a, xs, rfl, hs, hal⟩ := p
    exact ⟨a, xs, rfl, hs, fun q hq => hQ _ _ _ hk ⟨q, _, rfl, .inl (.inl upd_same), Al.st (Same.im (Same.new hq)) (al_rev hal)⟩ (Same.trans e1 (Same.new hq))⟩
theorem k_repT {X : Cx} {K : PySem.W.Frag} (hK : X.K = K) : OpR X (binaryOp .Mult) (rRepT K) := by subst hK; exact op_repT
theorem ot_repT {rs : List Rel} {n : Int} (h0 : rs ≠ []) (h1 : 2 ≤ n) (h2 : n ≤ 1000) (h3 : rs.length ≤ 1000) (q : k (rTup B.K (List.replicate n.toNat rs).flatten)) : OpT B (rRepT B.K) (rTup B.K rs) (rInt n) k := fun H x y _ ⟨a, xs, ex, hs, hal⟩ hy Q hQ => by
  subst ex
  cases hy
  have hl := Paired.length hal
  refine ⟨a, n, xs, rfl, rfl, hs, fun e => h0 (List.eq_nil_of_length_eq_zero (by rw [hl, e]; rfl)), h1, h2, by omega, fun p hp => ?_⟩
  exact hQ _ _ _ q ⟨p, _, rfl, .inl (.inl upd_same), Al.st (Same.im (Same.new hp)) (al_rep hal _)⟩ (Same.new hp)
theorem wl_rep {te : TE} {n : Int} {kl : List Rel → Prop} (h : WpL B Γ te fun rs => (0 ≤ n ∧ n ≤ 1000 ∧ rs.length ≤ 1000) ∧ kl (List.replicate n.toNat rs).flatten) : WpL B Γ (tOp rRep te (tC (.int n))) kl := fun σ H En Q hQ =>
  h σ H En _ fun rs p xs H1 ⟨⟨h1, h2, h3⟩, hk⟩ hp e1 hx hal => by
    have hl := Paired.length hal
    refine ⟨p, n, xs, rfl, rfl, hx, by omega, by omega, ?_, fun q hq => ?_⟩
    · have : xs.length * n.toNat ≤ 1000 * 1000 := Nat.mul_le_mul (by omega) (by omega)
      rw [sizeLine_eq]
      omega
    · exact hQ _ q _ _ hk (Same.free e1 hq) (Same.trans e1 (Same.new hq)) upd_same (Al.st (Same.im (Same.new hq)) (al_rep hal _))
end
end EX
set_option Elab.async false
set_option linter.all false
set_option maxRecDepth 100000
set_option maxHeartbeats 2000000
/-! E10: try .. except .. as e around a call that may raise. -/
namespace EX
open PySem PySem.Spec PySem.Calls PyProof.Rows L2 BX
/-- what a callee is asked where its error goes to a clause of this body (n slots) -/
def EW (n : Nat) (W : WX) : XK := fun cls d H => ∀ σ : L2.St, σ.length = n → W cls d σ H
theorem passW {X : Cx} {W : WX} {n : Nat} (tk : Takes X W) (hn : X.N.length = n) : Passes (L2.CX X.prog X.w) X (EW n W) := fun pins σ H s e s' I c =>
  tk e s' (XE.of_call I (fun cls d H' h => h σ (I.len.trans hn)) c)
theorem rzW {K : PySem.W.Frag} {c : Value} {i n : Nat} {ts : Addr → Value → Option Addr → TS} {Wout : WX} {D : Ends} {H0 : Hp} {e : Addr → Option (Str × V) → Prop}
    (hb : ∀ C o, e C o → PySem.W.exmOne K (.ref C) c = some true)
    (h0 : ∀ C H' a (σ : L2.St), e C none → Same H0 H' → σ.length = n → ts a (.ref C) none { nx := fun σ' H' => D.nx (σ'.set i none) H', rt := D.rt, bk := fun σ' H' => D.bk (σ'.set i none) H', ct := fun σ' H' => D.ct (σ'.set i none) H' } (σ.set i (some (.ref a))) H')
    (h1 : ∀ C d f v H' a (σ : L2.St), e C (some (f, v)) → Same H0 H' → H' d = some (.xd [(f, v)]) → σ.length = n → ts a (.ref C) (some d) { nx := fun σ' H' => D.nx (σ'.set i none) H', rt := D.rt, bk := fun σ' H' => D.bk (σ'.set i none) H', ct := fun σ' H' => D.ct (σ'.set i none) H' } (σ.set i (some (.ref a))) H') :
    RzK H0 e (EW n (wAs K c i ts Wout D)) :=
  ⟨fun C H' z s σ hl => ⟨true, hb C _ z, fun _ a _ => h0 C H' a σ z s hl, fun z => nomatch z⟩, fun C d f v H' z s hd σ hl => ⟨true, hb C _ z, fun _ a _ => h1 C d f v H' a σ z s hd hl, fun z => nomatch z⟩⟩
/-- the suite, its heap being the new ground -/
theorem suite_in {P : Program} {w : World} {K : PySem.W.Frag} {H' : Hp} {n i : Nat} {σ : L2.St} {a : Addr} {ts : TS} {D : Ends} (hl : σ.length = n) (hi : i < n) (h : WpS (bd P w K H') D ((List.replicate n Ty.no).set i (.im (rC (.ref a)))) ts) : ts D (σ.set i (some (.ref a))) H' := by
  refine h _ _ ⟨by rw [List.length_set, List.length_set, List.length_replicate]; exact hl, Same.refl _, trivial, fun j t e => ?_, fun j k t u l hjk e1 e2 m1 m2 q1 q2 => ?_⟩
  · by_cases c : j = i
    · subst c
      rw [List.getElem?_set_self (by rw [List.length_replicate]; exact hi)] at e
      cases e
      exact ⟨_, List.getElem?_set_self (by omega), .ref a, rfl, rfl⟩
    · rw [List.getElem?_set_ne (Ne.symm c)] at e
      obtain ⟨hj, e⟩ := List.getElem?_eq_some_iff.mp e
      rw [List.getElem_replicate] at e
      subst e
      rw [List.length_replicate] at hj
      exact ⟨σ[j], by rw [List.getElem?_set_ne (Ne.symm c), List.getElem?_eq_getElem (by omega)], trivial⟩
  · have : ∀ {j : Nat} {t : Ty}, ((List.replicate n Ty.no).set i (.im (rC (.ref a))))[j]? = some t → t.mut = true → False := fun {j t} e m => by
      by_cases c : j = i
      · subst c
        rw [List.getElem?_set_self (by rw [List.length_replicate]; exact hi)] at e
        cases e
        cases m
      · rw [List.getElem?_set_ne (Ne.symm c)] at e
        obtain ⟨hj, e⟩ := List.getElem?_eq_some_iff.mp e
        rw [List.getElem_replicate] at e
        subst e
        cases m
    exact this e1 m1
theorem rtk_in {P : Program} {w : World} {K : PySem.W.Frag} {H0 H' : Hp} {k : Rel → Prop} {D D' : Ends} (h : RtK (bd P w K H0) k D) (s : Same H0 H') (e : D'.rt = D.rt) : RtK (bd P w K H') k D' := fun r v H2 q p s2 => by
  rw [e]
  exact h r v H2 q p (Same.trans s s2)
/-! ### its class, whether it has a dict or not -/
def rIsG2 (K : PySem.W.Frag) (cls : Value) (d : Option Addr) (a : Addr) : List V → Hp → VK → Prop := fun xs H Q => rIsG K cls d a xs H Q ∨
  ∃ (D : Addr) (c : V) (cv : Value) (b : Bool), cls = .ref D ∧ d = none ∧ ExcC K D ∧ xs = [.ref a, c] ∧ ClsV c cv ∧ PySem.W.kitOne K (.ref D) cv = some b ∧ Q (.bl b) H
theorem call_isG2 {X : Cx} {K : PySem.W.Frag} {a : Addr} {oe : Obj} {cls : Value} {d : Option Addr} {pn : List (Addr × Obj)} (hK : X.K = K) (hz : Zc cls d oe) (hf : ∃ vs, oe.data = .fields vs) : CallR (X.suite a ((a, oe) :: pn)) (.builtin "isinstance") (rIsG2 K cls d a) := by
  intro pins s σ H xs us Q I r h
  rcases h with h | ⟨D, c, cv, b, rfl, rfl, C, rfl, kc, e, q⟩
  · exact call_isG hK hz hf pins s σ H xs us Q I r h
  · subst hK
    exact call_isE C hz hf pins s σ H _ us Q I r ⟨c, cv, b, rfl, fun u hu => kc.eq hu, e, q⟩
section
variable {B : Bd} {Γ : BX.Ctx} {k : Rel → Prop}
theorem ct_isG2 {C a : Addr} {d : Option Addr} {c : V} {cv : Value} {b : Bool} (T : ExcC B.K C) (hd : d = none ∨ ∃ dx fs, d = some dx ∧ B.H0 dx = some (.xd fs)) (hc : ClsV c cv) (e : PySem.W.kitOne B.K (.ref C) cv = some b) (q : k (rBl b)) : CaT B (rIsG2 B.K (.ref C) d a) [rC (.ref a), rC c] k := fun H vs s hh Q hQ => by
  cases hh with
  | cons h1 t =>
    cases t with
    | cons h2 t =>
      cases t
      cases h1
      cases h2
      rcases hd with rfl | ⟨dx, fs, rfl, hx⟩
      · exact .inr ⟨C, c, cv, b, rfl, rfl, T, rfl, hc, e, hQ _ _ H q rfl (Same.refl H)⟩
      · exact .inl ⟨C, dx, rfl, rfl, T, c, cv, b, fs, rfl, hc, s _ _ hx, e, hQ _ _ H q rfl (Same.refl H)⟩
theorem we_xf {C a dx : Addr} {f : Str} {fs : List (Str × V)} {v : V} {te : TE} (hx : B.H0 dx = some (.xd fs)) (hl : fs.lookup f = some v) (h : WpE B Γ te fun r => r = rC (.ref a) ∧ k (rC v)) : WpE B Γ (tXf a (.ref C) (some dx) C f te) k := fun σ H En Q hQ =>
  h σ H En _ fun r u H1 ⟨er, hk⟩ p e1 => by
    subst er
    cases p
    exact ⟨rfl, rfl, dx, fs, v, rfl, Same.trans En.ex e1 _ _ hx, hl, hQ _ _ H1 hk rfl e1⟩
end
/-! ### the statement -/
def tTry (K : PySem.W.Frag) (c : Value) (i : Nat) (tb : WX → TS) (ts : Addr → Value → Option Addr → TS) (Wout : WX) : TS := fun D σ H => tb (wAs K c i ts Wout D) D σ H
theorem ps_tryT {X : Cx} {x n : Str} {c : Value} {i : Nat} {body suite : List Stmt} {b₀ : Stmt} {np pos pos' : Pos} {tb : WX → TS} {ts : Addr → Value → Option Addr → TS} {Wout : WX}
    (hs : X.stack = X.env :: X.outer) (hf : X.env.frame = some X.env.locals) (hN : X.N.Nodup) (hi : X.N[i]? = some n) (hln : X.env.kindOf n = some .local) (hc : Names X x c) (tk : Takes X Wout)
    (hb : ∀ (W : WX) (pn : List (Addr × Obj)) (xe : Value → Shared → Prop), Takes (X.tr pn xe) W → PassesOwn (model X.prog X.w) X.A X.env xe → PSs (X.tr pn xe) body (tb W))
    (hsu : ∀ (a : Addr) (oe : Obj) (cls : Value) (d : Option Addr) (pn : List (Addr × Obj)), Zc cls d oe → (∃ vs, oe.data = .fields vs) → PSs (X.suite a ((a, oe) :: pn)) (b₀ :: suite) (ts a cls d)) :
    PS X (.Try body [.ExceptHandler (some (.Name x np)) (some n) (b₀ :: suite) pos'] [] [] pos) (tTry X.K c i tb ts Wout) := ps_try_as hs hf hN hi hln hc tk hb hsu
theorem ws_try {B : Bd} {Γ : BX.Ctx} {D : Ends} {K : PySem.W.Frag} {c : Value} {i : Nat} {tb : WX → TS} {ts : Addr → Value → Option Addr → TS} {Wout : WX} {rest : TS}
    (h : WpS B { D with nx := rest D } Γ (tb (wAs K c i ts Wout { D with nx := rest D }))) : WpS B D Γ (tSeq (tTry K c i tb ts Wout) rest) := fun σ H E => h σ H E
/-! ### index of a flag -/
section
variable {X : Cx} {K : PySem.W.Frag} {o e : Expr} {td : TE} {tA : TA} {apos cpos : Pos}
theorem q_index (hK : X.K = K) (ho : PE X o td) (ha : PA X [e] tA)
    (hbase : attributeBase o "index" X.env (eval o X.env) = eval o X.env := by rfl)
    (hfew : ((backTo cpos (starEach [e] X.env)).all (fun x => !x.1) && (backToKw cpos (keywordEach [] X.env)).all (fun x => x.1.isSome)
      && decide (([e] : List Expr).length + ([] : List Keyword).length + (if ([] : List Keyword).isEmpty then 0 else 1) < 30)) = true := by rfl)
    (hline : (apos.endLine == cpos.line) = true := by rfl) (hs : starEach [e] X.env = (false, eval e X.env) :: starEach [] X.env := by rfl) (hplain : (backTo cpos (starEach [] X.env)).any (·.1) = false := by rfl) :
    PE X (.Call (.Attribute o "index" apos) [e] [] cpos) (tBM K "list" (rIndex K) td tA) := by subst hK; exact pe_bm PySem.F.plainAttrs_list PySem.F.slot_list_index PySem.F.type_list_index mt_index ho ha hbase hfew hline hs hplain
end
section
variable {B : Bd} {Γ : BX.Ctx} {k : Rel → Prop}
theorem we_idx {ta : TE} (h : WpE B Γ ta fun r => ∃ (bs : List Bool) (j : Nat), r = rLst (bs.map rBl) ∧ bs[j]? = some true ∧ (∀ m, m < j → bs[m]? = some false) ∧ k (rInt (j : Nat))) : WpE B Γ (tBM B.K "list" (rIndex B.K) ta (tCons (tC (.bl true)) tNil)) k := fun σ H E Q hQ =>
  h σ H E _ fun r v H1 ⟨bs, j, er, hj, hm, hk⟩ p e => by
    subst er
    obtain ⟨a, o, xs, rfl, ha, hal⟩ := p
    have ex := al_bls hal
    subst ex
    refine ⟨.inl ⟨rfl, _, .inl (.inr ⟨_, ha⟩)⟩, ?_⟩
    refine ⟨a, bs.map V.bl, .bl true, j, .bl true, rfl, rfl, .inl (.inr ⟨_, ha⟩), rfl, ?_, by rw [List.getElem?_map, hj]; rfl, rfl, fun m z hmj hz => ?_, hQ _ _ H1 hk rfl e⟩
    · rw [List.all_map]
      exact List.all_eq_true.mpr fun _ _ => rfl
    · rw [List.getElem?_map, hm m hmj] at hz
      cases hz
      rfl
end
end EX
set_option Elab.async false
set_option linter.all false
set_option maxRecDepth 100000
set_option maxHeartbeats 1000000
/-! E11: == and != of two things that tells a flag, by calls of an own __eq__ on the way. -/
namespace BX
namespace Bq
open PySem PySem.SeqAt
open AutoSeq1 (wpAny_loadPart')
open MeetsSeq MeetsSeq2 MeetsSeq3 SeqRoads2
open GQ (FinOf call_here)
section
variable {prog : Program} {w : World} {A : Around} {R : Result → Shared → Prop}
theorem tuple_eqB (l b : Addr) (items items2 : Array Value) (n n2 : Nat) (dd dd2 : Option Addr) (sl sl2 : Array (Option Value)) (f : Nat → Bool) (res : Bool) (I : Nat → Shared → Prop)
    (turn : ∀ i (h1 : i < items.size) (h2 : i < items2.size) s, I i s → wpAny (model prog w) A.in1 (eqBool items[i] items2[i]) (fun r s' => r = f i ∧ I (i + 1) s') (fun e s' => R (.error e) s') s)
    (no : ∀ i, i < items.size → i < items2.size → f i = false → res = false) (ok : (∀ i, i < items.size → i < items2.size → f i = true) → res = (items.size == items2.size))
    (fin : ∀ i s, I i s → R (.ok (.ret (.bool res))) s) {s : Shared} (hl1 : s.heap.get? l = some { cls := .type "tuple", dict := dd, data := .seq items n, slots := sl }) (hb1 : s.heap.get? b = some { cls := .type "tuple", dict := dd2, data := .seq items2 n2, slots := sl2 }) (h : I 0 s) :
    wpAny (model prog w) A.in1 (Builtin.«tuple.__eq__» ⟨[.ref l, .ref b], []⟩) (FinOf prog w A R) (fun e s' => R (.error e) s') s := by
  have f2 := AutoSeq1.sub_tuple_tuple
  have hZ : (items.toList.zip items2.toList).length = min items.size items2.size := by simp
  have h0 := h
  obtain ⟨hp, g, d, tk, os⟩ := s
  wp_walk using wpAny_loadPart' hl1, wpAny_loadPart' hb1, wpAny_forIn_list _ (fun rest b s' => b.1 = none ∧ ∃ i, rest = (items.toList.zip items2.toList).drop i ∧ i ≤ min items.size items2.size ∧ (∀ j, j < i → f j = true) ∧ I i s') _
  case turn =>
    rintro ⟨y, x⟩ rest b s' ⟨hb', i, hz, hi, hf, hI⟩
    have hlt : i < (items.toList.zip items2.toList).length := by
      rcases Nat.lt_or_ge i (items.toList.zip items2.toList).length with h' | h'
      · exact h'
      · rw [List.drop_of_length_le h'] at hz; cases hz
    have hm : i < min items.size items2.size := hZ ▸ hlt
    have h1 : i < items.size := Nat.lt_of_lt_of_le hm (Nat.min_le_left _ _)
    have h2 : i < items2.size := Nat.lt_of_lt_of_le hm (Nat.min_le_right _ _)
    rw [List.drop_eq_getElem_cons hlt] at hz
    injection hz with hyx hrest
    have hy : y = items[i] := by have := congrArg Prod.fst hyx; simpa using this
    have hx : x = items2[i] := by have := congrArg Prod.snd hyx; simpa using this
    subst hy hx
    refine wpAny_bind (wpAny_mono (turn i h1 h2 s' hI) (fun r s2 q2 => ?_) fun _ _ x => x)
    obtain ⟨hr, q2⟩ := q2
    subst hr
    cases hfi : f i with
    | true =>
      wp_walk
      exact ⟨rfl, i + 1, hrest, hm, fun j hj => by
        rcases Nat.lt_succ_iff_lt_or_eq.mp hj with z | z
        · exact hf j z
        · rw [z]; exact hfi, q2⟩
    | false =>
      have hR : R (.ok (.ret (.bool false))) s2 := by
        have := fin _ _ q2
        rw [no i h1 h2 hfi] at this
        exact this
      wp_walk
      exact hR
  case fin =>
    rintro ⟨b1, b2⟩ s' ⟨hb', i, hz, hi, hf, hI⟩
    simp only at hb'
    subst hb'
    have hge : min items.size items2.size ≤ i := by
      rcases Nat.lt_or_ge i (items.toList.zip items2.toList).length with h' | h'
      · rw [List.drop_eq_getElem_cons h'] at hz; cases hz
      · exact hZ ▸ h'
    have hR : R (.ok (.ret (.bool (items.size == items2.size)))) s' := by
      have := fin _ _ hI
      rw [ok fun j h1 h2 => hf j (by omega)] at this
      exact this
    wp_walk
    simpa [Builtin.Tuple.tupleCompareSizes] using hR
  case h =>
    exact ⟨rfl, 0, rfl, Nat.zero_le _, fun j hj => absurd hj (Nat.not_lt_zero j), h0⟩
end
section
variable {prog : Program} {w : World} {A : Around} {E : Value → Shared → Prop} {s : Shared}
theorem rc_tupB {l b : Addr} {items items2 : Array Value} {Q : Value → Shared → Prop} (f : Nat → Bool) (res : Bool) (hu : A.units < cLine) (I : Nat → Shared → Prop)
    (hl : s.heap.IsTuple l items) (hb : s.heap.IsTuple b items2)
    (turn : ∀ i (h1 : i < items.size) (h2 : i < items2.size) s, I i s → wpAny (model prog w) A.in1 (eqBool items[i] items2[i]) (fun r s' => r = f i ∧ I (i + 1) s') E s)
    (no : ∀ i, i < items.size → i < items2.size → f i = false → res = false) (ok : (∀ i, i < items.size → i < items2.size → f i = true) → res = (items.size == items2.size))
    (fin : ∀ i s, I i s → Q (.bool res) s) (h : I 0 s) : wpAny (model prog w) A (richCompare .Eq (.ref l) (.ref b)) Q E s := by
  obtain ⟨⟨cls, dd, data, sl⟩, ho, hc, n, hd⟩ := id hl
  obtain ⟨⟨cls2, dd2, data2, sl2⟩, ho2, hc2, n2, hd2⟩ := id hb
  simp only at hc hd hc2 hd2
  subst hc hd hc2 hd2
  refine wpAny_richCompare_same_room (op := .Eq) ⟨_, ho, rfl⟩ ⟨_, ho2, rfl⟩ F.slot_tuple_eq (call_here F.slot_tuple_eq ⟨_, ho, rfl⟩ F.entry_tuple_eq (F.args_tuple_eq_2 _ _) ?_) hu
  exact tuple_eqB (R := wants (fun v s' => v ≠ .notImplemented ∧ Q v s') E) l b items items2 n n2 dd dd2 sl sl2 f res I turn no ok (fun i s' q => ⟨(fun x => nomatch x), fin i s' q⟩) ho ho2 h
end
end Bq
end BX
namespace BX
open PySem PySem.Spec PySem.SeqAt PyProof.Rows L2
theorem relV_ex : ∀ v : V, ∃ u, RelV v u
  | .non => ⟨_, rfl⟩
  | .bl _ => ⟨_, rfl⟩
  | .int _ => ⟨_, 0, rfl⟩
  | .str _ => ⟨_, 0, rfl⟩
  | .byt _ => ⟨_, 0, rfl⟩
  | .flt _ => ⟨_, 0, rfl⟩
  | .ref _ => ⟨_, rfl⟩
  | .ty _ => ⟨_, rfl⟩
/-- two lists of relations, item by item, and the flag of the whole -/
inductive Prb (R : Rel → Rel → Bool → Prop) : List Rel → List Rel → Bool → Prop where
  | nil : Prb R [] [] true
  | cons {r s b rs ss c} : R r s b → Prb R rs ss c → Prb R (r :: rs) (s :: ss) (b && c)
  | short {s ss} : Prb R [] (s :: ss) false
  | long {r rs} : Prb R (r :: rs) [] false
/-- what stands at the places -/
theorem Prb.at {R : Rel → Rel → Bool → Prop} {H : Hp} {rs ss : List Rel} {b : Bool} (h : Prb R rs ss b) : ∀ {xs ys : List V} {us vs : List Value}, Al H rs xs → Al H ss ys → Vals xs us → Vals ys vs →
    ∃ f : Nat → Bool, (∀ i (h1 : i < us.length) (h2 : i < vs.length), ∃ r s x y, R r s (f i) ∧ RelV x us[i] ∧ RelV y vs[i] ∧ r.p x H ∧ s.p y H) ∧ (∀ i, i < us.length → i < vs.length → f i = false → b = false) ∧
      ((∀ i, i < us.length → i < vs.length → f i = true) → b = (us.length == vs.length)) := by
  induction h with
  | nil =>
    intro xs ys us vs a1 a2 r1 r2
    cases a1; cases a2; cases r1; cases r2
    exact ⟨fun _ => true, fun i h1 => absurd h1 (Nat.not_lt_zero i), fun i h1 => absurd h1 (Nat.not_lt_zero i), fun _ => rfl⟩
  | short =>
    intro xs ys us vs a1 a2 r1 r2
    cases a1; cases r1
    cases a2 with | cons a2 b2 => cases r2 with | cons r2 s2 =>
    exact ⟨fun _ => true, fun i h1 => absurd h1 (Nat.not_lt_zero i), fun i h1 => absurd h1 (Nat.not_lt_zero i), fun _ => rfl⟩
  | long =>
    intro xs ys us vs a1 a2 r1 r2
    cases a2; cases r2
    cases a1 with | cons a1 b1 => cases r1 with | cons r1 s1 =>
    exact ⟨fun _ => true, fun i _ h1 => absurd h1 (Nat.not_lt_zero i), fun i _ h1 => absurd h1 (Nat.not_lt_zero i), fun _ => rfl⟩
  | @cons r s b rs ss c h t ih =>
    intro xs ys us vs a1 a2 r1 r2
    cases a1 with | cons a1 b1 => cases r1 with | cons r1 s1 =>
    cases a2 with | cons a2 b2 => cases r2 with | cons r2 s2 =>
    obtain ⟨f, g1, g2, g3⟩ := ih b1 b2 s1 s2
    refine ⟨fun i => match i with | 0 => b | i + 1 => f i, fun i h1 h2 => ?_, fun i h1 h2 e => ?_, fun e => ?_⟩
    · cases i with
      | zero => exact ⟨r, s, _, _, h, r1, r2, a1, a2⟩
      | succ i => exact g1 i (Nat.lt_of_succ_lt_succ h1) (Nat.lt_of_succ_lt_succ h2)
    · cases i with
      | zero => rw [show b = false from e]; rfl
      | succ i => rw [g2 i (Nat.lt_of_succ_lt_succ h1) (Nat.lt_of_succ_lt_succ h2) e, Bool.and_false]
    · have e0 : b = true := e 0 (Nat.zero_lt_succ _) (Nat.zero_lt_succ _)
      rw [e0, Bool.true_and, g3 fun i h1 h2 => e (i + 1) (Nat.succ_lt_succ h1) (Nat.succ_lt_succ h2), List.length_cons, List.length_cons]
      simp
theorem Prb.imp {R S : Rel → Rel → Bool → Prop} (hi : ∀ r s b, R r s b → S r s b) {rs ss : List Rel} {b : Bool} (h : Prb R rs ss b) : Prb S rs ss b := by
  induction h with
  | nil => exact .nil
  | cons h _ ih => exact .cons (hi _ _ _ h) ih
  | short => exact .short
  | long => exact .long
/-- the very same value: then the flag is True -/
def SmB (X : Cx) (r1 r2 : Rel) (b : Bool) : Prop := ∀ (pins : List (Addr × Obj)) (s : Shared) (σ : L2.St) (H : Hp) (x y : V) (u : Value), Inv X pins σ H s → RelV x u → RelV y u → r1.p x H → r2.p y H → b = true
theorem smB_all {X : Cx} {rs ss : List Rel} {b : Bool} (h : Prb (SmB X) rs ss b) {pins : List (Addr × Obj)} {s : Shared} {σ : L2.St} {H : Hp} (I : Inv X pins σ H s) {xs ys : List V} {us : List Value} (a1 : Al H rs xs) (a2 : Al H ss ys) (r1 : Vals xs us) (r2 : Vals ys us) : b = true := by
  obtain ⟨f, g1, g2, g3⟩ := h.at a1 a2 r1 r2
  have e : ∀ i, i < us.length → i < us.length → f i = true := fun i h1 h2 => by
    obtain ⟨r, t, x, y, hR, rx, ry, p, q⟩ := g1 i h1 h2
    exact hR pins s σ H x y _ I rx ry p q
  rw [g3 e]
  simp
theorem isTup_same {h : Heap} {a : Addr} {i j : Array Value} (p : IsTup h a i) (q : IsTup h a j) : i = j := by
  obtain ⟨o, e, _, n, d⟩ := p
  obtain ⟨o', e', _, n', d'⟩ := q
  rw [e] at e'
  cases e'
  rw [d] at d'
  injection d'
theorem smB_tup {X : Cx} {rs ss : List Rel} {b : Bool} (h : Prb (SmB X) rs ss b) : SmB X (rTup X.K rs) (rTup X.K ss) b := fun pins s σ H x y u I rx ry p q => by
  obtain ⟨a, xs, rfl, hs, hal⟩ := p
  obtain ⟨c, ys, rfl, hs', hal'⟩ := q
  cases (show u = Value.ref a from rx)
  obtain rfl : a = c := by
    have := (show Value.ref a = Value.ref c from ry)
    injection this
  obtain ⟨its, r, e, _⟩ := I.tuple hs
  obtain ⟨its2, r2, e2, _⟩ := I.tuple hs'
  have ee := isTup_same e e2
  have ee : its = its2 := by have := congrArg Array.toList ee; simpa using this
  subst ee
  exact smB_all h I hal hal' r r2
theorem smB_lst {X : Cx} {rs ss : List Rel} {b : Bool} (h : Prb (SmB X) rs ss b) : SmB X (rLst rs) (rLst ss) b := fun pins s σ H x y u I rx ry p q => by
  obtain ⟨a, o, xs, rfl, hs, hal⟩ := p
  obtain ⟨c, o', ys, rfl, hs', hal'⟩ := q
  cases (show u = Value.ref a from rx)
  obtain rfl : a = c := by
    have := (show Value.ref a = Value.ref c from ry)
    injection this
  rw [hs] at hs'
  cases hs'
  have hv : ∀ vs : List V, ∃ us, Vals vs us := fun vs => by
    induction vs with
    | nil => exact ⟨[], .nil⟩
    | cons v vs ih =>
      obtain ⟨us, r⟩ := ih
      obtain ⟨u, r'⟩ := relV_ex v
      exact ⟨u :: us, .cons r' r⟩
  obtain ⟨us, r⟩ := hv xs
  exact smB_all h I hal hal' r r
theorem smB_int {X : Cx} {i j : Int} : SmB X (rInt i) (rInt j) (decide (i = j)) := fun pins s σ H x y u I rx ry p q => by
  cases p
  cases q
  obtain ⟨t, rfl⟩ := rx
  obtain ⟨t', e⟩ := ry
  injection e with e
  exact decide_eq_true e
/-- == that only looks -/
def EPB (X : Cx) (n : Nat) (r1 r2 : Rel) (b : Bool) : Prop := SmB X r1 r2 b ∧ ∀ (A : Around), A.units + 64 + n < cLine → ∀ (pins : List (Addr × Obj)) (s : Shared) (σ : L2.St) (H : Hp) (x y : V) (u v : Value), Inv X pins σ H s → RelV x u → RelV y v → r1.p x H → r2.p y H → EqP X.prog X.w A s u v b
theorem EPB.mono {X : Cx} {n m : Nat} {r1 r2 : Rel} {b : Bool} (h : EPB X n r1 r2 b) (hn : n ≤ m) : EPB X m r1 r2 b := ⟨h.1, fun A hu => h.2 A (by omega)⟩
theorem epb_int {X : Cx} {n : Nat} {i j : Int} : EPB X n (rInt i) (rInt j) (decide (i = j)) := ⟨smB_int, fun A hu pins s σ H x y u v I rx ry p q => by
  cases p
  cases q
  obtain ⟨t, rfl⟩ := rx
  obtain ⟨t', rfl⟩ := ry
  have := (EqAt.int_int (A := A) (s := s) i t j t').eqP (prog := X.prog) (w := X.w)
  rwa [show (i == j) = decide (i = j) from by by_cases h : i = j <;> simp [h]] at this⟩
theorem epb_str {X : Cx} {n : Nat} (z : Str) : EPB X n (rStr z) (rStr z) true := ⟨fun _ _ _ _ _ _ _ _ _ _ _ _ => rfl, fun A hu => (epr_str z) A (by omega)⟩
theorem vals_ints {a b : List Int} : ∀ {us : List Value}, Vals (a.map V.int) us → Vals (b.map V.int) us → a = b := by
  induction a generalizing b with
  | nil =>
    intro us h h'
    cases h
    cases b with
    | nil => rfl
    | cons _ _ => cases h'
  | cons i a ih =>
    intro us h h'
    cases h with | cons r h =>
    cases b with
    | nil => cases h'
    | cons j b =>
      cases h' with | cons r' h' =>
      obtain ⟨t, rfl⟩ := r
      obtain ⟨t', e⟩ := r'
      injection e with e
      rw [e, ih h h']
theorem mI_inj {X : Cx} {pins : List (Addr × Obj)} {s : Shared} {σ : L2.St} {H : Hp} (I : Inv X pins σ H s) : ∀ {S T : PT} {es fs : List DEnt} {xs ys : List (List Key × Addr × Value)}, AlX X.K H (mI S) es → AlX X.K H (mI T) fs → BX.EX es xs → BX.EX fs ys →
    xs.map (entryOfKey (tupleKind (mixKind X.prog X.w))) = ys.map (entryOfKey (tupleKind (mixKind X.prog X.w))) → S = T
  | [], [], _, _, _, _, _, _, _, _, _ => rfl
  | [], _ :: _, _, _, _, _, .nil, .cons _ _, .nil, .cons _ _, e => nomatch e
  | _ :: _, [], _, _, _, _, .cons _ _, .nil, .cons _ _, .nil, e => nomatch e
  | (a, c) :: S, (b, d) :: T, _, _, _, _, .cons h t, .cons h' t', .cons r u, .cons r' u', e => by
    rw [List.map_cons, List.map_cons] at e
    injection e with e0 e1
    obtain ⟨k1, q1, c1⟩ := h
    obtain ⟨k2, q2, c2⟩ := h'
    obtain ⟨x1, x2, x3⟩ := r
    obtain ⟨y1, y2, y3⟩ := r'
    unfold entryOfKey at e0
    injection e0 with _ ek ev
    injection ek with ek
    rw [← x2, ← y2] at ek
    rw [ek] at q1
    obtain ⟨its, v1, g1, _⟩ := I.tuple q1
    obtain ⟨its2, v2, g2, _⟩ := I.tuple q2
    have ee := isTup_same g1 g2
    have ee : its = its2 := by have := congrArg Array.toList ee; simpa using this
    rw [← ee] at v2
    have eab : a = b := vals_ints v1 v2
    have c1 := (show _ = V.int c from c1)
    have c2 := (show _ = V.int d from c2)
    rw [c1] at x3
    rw [c2] at y3
    obtain ⟨t1, z1⟩ := (show ∃ t, _ = Value.int c t from x3)
    obtain ⟨t2, z2⟩ := (show ∃ t, _ = Value.int d t from y3)
    rw [z1, z2] at ev
    injection ev with ev
    rw [eab, ev, mI_inj I t t' u u' e1]
theorem epb_dct {X : Cx} {n : Nat} {S T : PT} (hS : eqTb S S = true) : EPB X n (rDct X.prog X.w X.K (mI S)) (rDct X.prog X.w X.K (mI T)) (eqTb S T) := by
  have sm : SmB X (rDct X.prog X.w X.K (mI S)) (rDct X.prog X.w X.K (mI T)) (eqTb S T) := fun pins s σ H x y u I rx ry h1 h2 => by
    obtain ⟨a, o, es, rfl, ha, hal⟩ := h1
    obtain ⟨b, o', fs, rfl, hb, hal'⟩ := h2
    cases (show u = Value.ref a from rx)
    obtain rfl : a = b := by
      have := (show Value.ref a = Value.ref b from ry)
      injection this
    obtain ⟨_, _, xs, rel, o1, ees, ep, p1, _, p3, p4, _⟩ := dx_rd I.hok I.kIn (.inr ⟨o, ha⟩) hal.keys
    obtain ⟨_, _, ys, rel', o2, ees', ep', q1, _, q3, q4, _⟩ := dx_rd I.hok I.kIn (.inr ⟨o', hb⟩) hal'.keys
    rw [p1] at q1
    cases q1
    rw [p3] at q3
    injection q3 with q3
    rw [← mI_inj I hal hal' rel rel' (p4.symm.trans ((congrArg Array.toList q3).trans q4))]
    exact hS
  refine ⟨sm, fun A hu pins s σ H x y u v I rx ry h1 h2 => ?_⟩
  obtain ⟨a, o, es, rfl, ha, hal⟩ := id h1
  obtain ⟨b, o', fs, rfl, hb, hal'⟩ := id h2
  cases (show u = Value.ref a from rx)
  cases (show v = Value.ref b from ry)
  by_cases e : a = b
  · subst e
    rw [sm pins s σ H (.ref a) (.ref a) (.ref a) I rfl rfl h1 h2]
    exact (SeqAt.EqAt.same _).eqP
  · refine eqP_refs e fun E Q q => ?_
    exact (rdct_b (A := A) (by omega) I rx ry h1 h2 q).2
end BX
set_option Elab.async false
set_option linter.all false
set_option maxRecDepth 100000
set_option maxHeartbeats 2000000
/-! E12: errors whose field is told by a relation. -/
namespace EX
open PySem PySem.Spec PySem.Calls PyProof.Rows L2 BX
abbrev ErR := Addr → Option (Str × Rel) → Prop
/-- rels, told, refused: by the class, perhaps with a field's relation -/
abbrev SpcY := List Rel → (Rel → Prop) → ErR → Prop
def RzR (H0 : Hp) (e : ErR) (E : XK) : Prop :=
  (∀ C H', e C none → Same H0 H' → E (.ref C) none H') ∧ ∀ C d f v r H', e C (some (f, r)) → Same H0 H' → H' d = some (.xd [(f, v)]) → r.p v H' → E (.ref C) (some d) H'
def spY (S : SpcY) : Sp := fun vs H Q E => ∃ rs k e, Al H rs vs ∧ S rs k e ∧ (∀ r v H', k r → r.p v H' → Same H H' → Q v H') ∧ RzR H e E
theorem RzR.later {H0 H1 : Hp} {e : ErR} {E : XK} (h : RzR H0 e E) (s : Same H0 H1) : RzR H1 e E := ⟨fun C H' z z1 => h.1 C H' z (Same.trans s z1), fun C d f v r H' z z1 z2 => h.2 C d f v r H' z (Same.trans s z1) z2⟩
theorem len_ofY {S : SpcY} {n : Nat} (hS : ∀ rs k e, S rs k e → rs.length = n) : ∀ vs H Q E, spY S vs H Q E → vs.length = n := fun vs H Q E ⟨rs, k, e, hal, hs, _⟩ => by
  rw [← Paired.length hal]
  exact hS rs k e hs
theorem read_ofY (P : Program) (w : World) (K : PySem.W.Frag) {H : Hp} {n : Nat} {vs : List V} {N : List Str} {t : TS} {S : SpcY} {Q : VK} {E : XK} (h : spY S vs H Q E) (hn : N.length = n)
    (hw : ∀ rs k e (D : Ends), S rs k e → RtK (bd P w K H) k D → NxK (bd P w K H) k D → RzR H e E → WpS (bd P w K H) D (ctx0 n rs) t) : t { nx := fun _ H' => Q .non H', rt := Q } (L2.start N vs) H := by
  obtain ⟨rs, k, e, hal, hs, hQ, hE⟩ := h
  exact hw rs k e _ hs (fun r v H' q p e => hQ r v H' q p e) (fun σ H' q e => hQ rNon .non H' q rfl e) hE _ _ (env0 (B := bd P w K H) (fun _ => trivial) hn hal)
theorem we_callY {B : Bd} {Γ : BX.Ctx} {k : Rel → Prop} {S : SpcY} {E : XK} {tA : TA} {e : ErR} (hE : RzR B.H0 e E) (h : WpA B Γ tA fun rs => S rs k e) : WpE B Γ (tCall (spY S) [] E tA) k := fun σ H En Q hQ =>
  h σ H En _ fun rs vs H1 h1 p1 e1 => by
    show spY S (vs ++ []) H1 Q E
    rw [List.append_nil]
    exact ⟨rs, k, e, p1, h1, fun r v H' q p e => hQ r v H' q p (Same.trans e1 e), hE.later (Same.trans En.ex e1)⟩
abbrev SpcM := List Rel → List (Str × Rel) → Prop → ErR → Prop
def spMkY (C : Addr) (S : SpcM) : Sp := fun vs H Q E => ∃ x dx ws rs fs ok e, vs = .ref x :: ws ∧ H x = some (.ins C dx []) ∧ Al H rs ws ∧ S rs fs ok e ∧
  (ok → ∀ H1 xs, Same H H1 → Paired (fun (p : Str × Rel) (q : Str × V) => p.1 = q.1 ∧ p.2.p q.2 (upd H1 x (.ins C dx xs))) fs xs → Q .non (upd H1 x (.ins C dx xs))) ∧ RzR H e E
theorem we_makeY {B : Bd} {Γ : BX.Ctx} {k : Rel → Prop} {C : Addr} {S : SpcM} {E : XK} {t : TA} {e : ErR} (hE : RzR B.H0 e E)
    (h : WpA B Γ t fun rs => ∃ fs ok, S rs fs ok e ∧ (ok → k (rIns C fs))) : WpE B Γ (tMake C (spMkY C S) [] E t) k := fun σ H En Q hQ =>
  h σ H En _ fun rs vs H1 ⟨fs, ok, hs, hk⟩ p e1 x dx hx hdx ne => by
    have n1 : Same H1 (upd (upd H1 dx (.own x)) x (.ins C dx [])) := Same.trans (Same.new hdx) (Same.new (by rw [upd_ne (Ne.symm ne)]; exact hx))
    refine ⟨x, dx, vs, rs, fs, ok, e, by rw [List.append_nil], upd_same, p.st (Same.im n1), hs, fun hok H2 xs s2 hp => ⟨rfl, ?_⟩, hE.later (Same.trans En.ex (Same.trans e1 n1))⟩
    have s3 : Same H1 (upd H2 x (.ins C dx xs)) := Same.put (fun b u q => s2 b u (n1 b u q)) hx
    exact hQ _ _ _ (hk hok) ⟨x, dx, xs, rfl, upd_same, hp⟩ (Same.trans e1 s3)
theorem mk_ofY (P : Program) (w : World) (K : PySem.W.Frag) {H : Hp} {n : Nat} {vs : List V} {N : List Str} {t : TS} {C : Addr} {S : SpcM} {Q : VK} {E : XK} (h : spMkY C S vs H Q E) (hn : N.length = n)
    (hw : ∀ rs fs ok e (D : Ends) x dx, S rs fs ok e → (ok → FinK (bdI P w K H x C dx) x C dx fs D) → RzR H e E → WpS (bdI P w K H x C dx) D (ctx0 n (rC (.ref x) :: rs)) t) : t { nx := fun _ H' => Q .non H', rt := Q } (L2.start N vs) H := by
  obtain ⟨x, dx, ws, rs, fs, ok, e, rfl, hx, hal, hs, hQ, hE⟩ := h
  have hl : rs.length = ws.length := Paired.length hal
  have e0 : BX.Env (bd P w K H) (ctx0 n (rC (.ref x) :: rs)) (L2.start N (.ref x :: ws)) H := env0 (B := bd P w K H) (fun _ => trivial) hn (.cons rfl hal)
  exact hw rs fs ok e _ x dx hs (fun hok σ H1 xs s1 g p => hQ hok H1 xs s1 p) hE _ _ ⟨e0.len, e0.ex, hx, fun i t e => let ⟨ov, h1, h2⟩ := e0.ty i t e; ⟨ov, h1, by cases t <;> exact h2⟩, e0.dis⟩
theorem len_mkY {C : Addr} {S : SpcM} {n : Nat} (hS : ∀ rs fs ok e, S rs fs ok e → rs.length + 1 = n) : ∀ vs H Q E, spMkY C S vs H Q E → vs.length = n := fun vs H Q E ⟨x, dx, ws, rs, fs, ok, e, z, _, hal, hs, _⟩ => by
  rw [z, List.length_cons, ← Paired.length hal]
  exact hS rs fs ok e hs
/-- raise C(v), C with its own __init__ -/
theorem ws_rzR {B : Bd} {Γ : BX.Ctx} {D : Ends} {C : Addr} {f : Str} {te : TE} {e : ErR} {E : XK} {tz : TS} (hE : RzR B.H0 e E) (h : WpE B Γ te fun r => e C (some (f, r))) :
    WpS B D Γ (tSeq (fun _ σ H => tMkO C (spInit C f) [] (tCons te tNil) σ H fun cls d H' => E cls d H') tz) := fun σ H En => by
  refine h σ H En _ fun r v H1 he p e1 => ?_
  refine ⟨by show 1 ≤ 1000; decide, fun a ha => ⟨a, v, rfl, upd_same, fun dx n ne => ⟨rfl, dx, [(f, v)], upd_same, by rw [upd_ne ne, upd_same], ?_, ?_⟩⟩⟩
  · rw [upd_ne ne] at n
    exact n
  · rw [upd_ne ne] at n
    have key : ∀ H2, Same H1 H2 → H2 dx = some (.xd [(f, v)]) → E (.ref C) (some dx) H2 := fun H2 s1 hd => hE.2 C dx f v r H2 he (Same.trans En.ex (Same.trans e1 s1)) hd (r.st (Same.im s1) p)
    refine key _ (fun b o e => ?_) upd_same
    have hb : b ≠ dx := ne_of_none e n
    have hb2 : b ≠ a := ne_of_none e ha
    rw [upd_ne hb, L2.del_ne hb2, upd_ne hb2, upd_ne hb, upd_ne hb2]
    exact e
theorem rzRW {K : PySem.W.Frag} {c : Value} {i n : Nat} {ts : Addr → Value → Option Addr → TS} {Wout : WX} {D : Ends} {H0 : Hp} {e : ErR}
    (hb : ∀ C o, e C o → PySem.W.exmOne K (.ref C) c = some true)
    (h0 : ∀ C H' a (σ : L2.St), e C none → Same H0 H' → σ.length = n → ts a (.ref C) none { nx := fun σ' H' => D.nx (σ'.set i none) H', rt := D.rt, bk := fun σ' H' => D.bk (σ'.set i none) H', ct := fun σ' H' => D.ct (σ'.set i none) H' } (σ.set i (some (.ref a))) H')
    (h1 : ∀ C d f v r H' a (σ : L2.St), e C (some (f, r)) → Same H0 H' → H' d = some (.xd [(f, v)]) → r.p v H' → σ.length = n → ts a (.ref C) (some d) { nx := fun σ' H' => D.nx (σ'.set i none) H', rt := D.rt, bk := fun σ' H' => D.bk (σ'.set i none) H', ct := fun σ' H' => D.ct (σ'.set i none) H' } (σ.set i (some (.ref a))) H') :
    RzR H0 e (EW n (wAs K c i ts Wout D)) :=
  ⟨fun C H' z s σ hl => ⟨true, hb C _ z, fun _ a _ => h0 C H' a σ z s hl, fun z => nomatch z⟩, fun C d f v r H' z s hd hr σ hl => ⟨true, hb C _ z, fun _ a _ => h1 C d f v r H' a σ z s hd hr hl, fun z => nomatch z⟩⟩
/-- the field, by its relation -/
theorem we_xfR {B : Bd} {Γ : BX.Ctx} {k : Rel → Prop} {C a dx : Addr} {f : Str} {fs : List (Str × V)} {v : V} {r : Rel} {te : TE} (hx : B.H0 dx = some (.xd fs)) (hl : fs.lookup f = some v) (hr : r.p v B.H0) (h : WpE B Γ te fun r' => r' = rC (.ref a) ∧ k r) : WpE B Γ (tXf a (.ref C) (some dx) C f te) k := fun σ H En Q hQ =>
  h σ H En _ fun r' u H1 ⟨er, hk⟩ p e1 => by
    subst er
    cases p
    exact ⟨rfl, rfl, dx, fs, v, rfl, Same.trans En.ex e1 _ _ hx, hl, hQ _ _ H1 hk (r.st (Same.im (Same.trans En.ex e1)) hr) e1⟩
end EX
set_option Elab.async false
set_option linter.all false
set_option maxRecDepth 100000
set_option maxHeartbeats 2000000
/-! E13: == of tuples of instances with an own __eq__, whatever it tells; == of nested tuples and lists that only looks. -/
namespace BX
open PySem PySem.Spec PySem.SeqAt PyProof.Rows L2
def EqB (X : Cx) (n : Nat) (r1 r2 : Rel) (b : Bool) : Prop := SmB X r1 r2 b ∧ ∀ (A : Around) (pins : List (Addr × Obj)) (s : Shared) (σ : L2.St) (H : Hp) (x y : V) (u v : Value), Sub X n A → Inv X pins σ H s → RelV x u → RelV y v → r1.p x H → r2.p y H →
  wpAny (model X.prog X.w) A (eqBool u v) (fun r s' => r = b ∧ ∃ H', Inv X pins σ H' s' ∧ Ext H H') X.xe s
def RcB (X : Cx) (n : Nat) (r1 r2 : Rel) (b : Bool) : Prop := ∀ (A : Around) (pins : List (Addr × Obj)) (s : Shared) (σ : L2.St) (H : Hp) (x y : V) (u v : Value), Sub X n A → Inv X pins σ H s → RelV x u → RelV y v → r1.p x H → r2.p y H →
  wpAny (model X.prog X.w) A (richCompare .Eq u v) (fun r s' => r = .bool b ∧ ∃ H', Inv X pins σ H' s' ∧ Ext H H') X.xe s
theorem RcB.eqB {X : Cx} {n : Nat} {r1 r2 : Rel} {b : Bool} (h : RcB X n r1 r2 b) (sm : SmB X r1 r2 b) (h1 : ∀ x H, r1.p x H → ∃ a, x = .ref a) (h2 : ∀ x H, r2.p x H → ∃ a, x = .ref a) : EqB X n r1 r2 b := by
  refine ⟨sm, fun A pins s σ H x y u v sb I rx ry p q => ?_⟩
  obtain ⟨a, rfl⟩ := h1 _ _ p
  obtain ⟨c, rfl⟩ := h2 _ _ q
  cases rx
  cases ry
  by_cases hac : a = c
  · subst hac
    rw [sm pins s σ H (.ref a) (.ref a) (.ref a) I rfl rfl p q]
    exact SeqAt.EqAt.same (A := A) (s := s) (.ref a) X.prog X.w X.xe _ ⟨rfl, H, I, Ext.rfl'⟩
  · refine GQ.eqBool_refG hac (wpAny_mono (h A pins s σ H (.ref a) (.ref c) _ _ sb I rfl rfl p q) (fun r s' z => ?_) fun _ _ x => x)
    obtain ⟨hr', z⟩ := z
    exact ⟨b, hr', rfl, z⟩
theorem rcB_ins {X : Cx} {n : Nat} {CX : CXT} {C f : Addr} {fd : FuncData} {ps : List Str} {S : Spc} {E : XK} {fs gs : List (Str × Rel)} {b : Bool} (F : FnOk X.prog X.w X.K X.mg X.base CX n f fd ps (spOf S))
    (hs : PySem.W.findIn X.K (.ref C) "__eq__" = some (some (.ref f))) (hf : PySem.W.isFn X.K (.ref f) = true) (hb : Binds X.K fd ps []) (hx : Passes CX X E) (hS : S [rIns C fs, rIns C gs] fun r => r = rBl b) : RcB X n (rIns C fs) (rIns C gs) b := by
  intro A pins s σ H x y u v sb I rx ry p q
  obtain ⟨a, dx, xs, rfl, ha, _⟩ := id p
  obtain ⟨c, dy, ys, rfl, hc, _⟩ := id q
  cases rx
  cases ry
  obtain ⟨mA, J, _⟩ := ins_get I.hok ha
  obtain ⟨mB, J', _⟩ := ins_get I.hok hc
  obtain ⟨od, J, _⟩ := J.look
  obtain ⟨od', J', _⟩ := J'.look
  obtain ⟨m, hF⟩ := I.fr
  refine PySem.W.cmp_K (op := .Eq) (tb := .ref C) sb.room.units0 hF I.ok.mod.kin J J'.type (by simp [PySem.W.notFirst]) hs hf ?_
  have hsp : spOf S [.ref a, .ref c] H (fun v H' => v = .bl b ∧ Ext H H') E := ⟨_, _, .cons p (.cons q .nil), hS, fun r v H' k z sm => by
    subst k
    exact ⟨z, sm⟩⟩
  have e0 : Env0 X.prog X.w X.K X.mg X.base A X.stack s H := by
    have e := I.env0
    exact ⟨by rw [sb.fr]; exact e.frames, e.mod, e.bs, e.bsz, e.funs, e.frf, e.hok, e.bare⟩
  have hl := F.len _ _ _ _ hsp
  have r2 : Vals [V.ref a, V.ref c] [Value.ref a, Value.ref c] := .cons rfl (.cons rfl .nil)
  refine wpAny_call (codeAny_mono (F.run A X.stack s H ⟨[.ref a, .ref c], []⟩ [.ref a, .ref c] [.ref a, .ref c] _ E sb.room e0 (by
    have := hb s [.ref a, .ref c] I.kIn (by simpa using hl)
    simpa using this) r2 hsp) fun r s' hq => ?_)
  cases r with
  | error e => exact hx pins σ H s e s' I hq
  | ok fl =>
    cases fl with
    | ret w =>
      obtain ⟨z, H', I', rz, ez, ex⟩ := I.after hq
      subst ez
      cases rz
      exact ⟨rfl, H', I', ex⟩
    | next => exact False.elim hq
    | brk => exact False.elim hq
    | cont => exact False.elim hq
theorem rcB_tup {X : Cx} {n : Nat} {rs ss : List Rel} {b : Bool} (h : Prb (EqB X n) rs ss b) : RcB X (n + 1) (rTup X.K rs) (rTup X.K ss) b := by
  intro A pins s σ H x y u v sb I rx ry p q
  obtain ⟨a, xs, rfl, hs, hal⟩ := p
  obtain ⟨c, ys, rfl, hs', hal'⟩ := q
  cases rx
  cases ry
  obtain ⟨its, r, e, _⟩ := I.tuple hs
  obtain ⟨its2, r2, e2, _⟩ := I.tuple hs'
  obtain ⟨f, g1, g2, g3⟩ := h.at hal hal' r r2
  refine Bq.rc_tupB f b sb.room.units0 (fun _ s' => LoopI X pins σ H s') e e2 (fun i h1 h2 s' ⟨H1, I1, e1⟩ => ?_) (fun i h1 h2 hf => g2 i (by simpa using h1) (by simpa using h2) hf) (fun hf => ?_) (fun i s' ⟨H1, I1, e1⟩ => ⟨rfl, H1, I1, e1⟩) ⟨H, I, Ext.rfl'⟩
  · have h1' : i < its.length := by simpa using h1
    have h2' : i < its2.length := by simpa using h2
    obtain ⟨rr, tt, x, y, hR, rx, ry, px, qy⟩ := g1 i h1' h2'
    have sm : Im H H1 := fun a o _ z => e1 a o z
    have := hR.2 A.in1 pins s' σ H1 x y its.toArray[i] its2.toArray[i] sb.in1 I1 (by simpa using rx) (by simpa using ry) (rr.st sm px) (tt.st sm qy)
    refine wpAny_mono this (fun r s2 q => ?_) fun _ _ x => x
    obtain ⟨hr, H2, I2, e2⟩ := q
    exact ⟨hr, H2, I2, e1.trans e2⟩
  · rw [g3 fun i h1 h2 => hf i (by simpa using h1) (by simpa using h2)]
    simp
theorem op_rcB {X : Cx} {n : Nat} {r1 r2 : Rel} {b : Bool} {pins : List (Addr × Obj)} {s : Shared} {σ : L2.St} {H : Hp} {x y : V} {u v : Value} {Q : VK} (h : RcB X n r1 r2 b) (hr : Room n X.A) (I : Inv X pins σ H s) (rx : RelV x u) (ry : RelV y v) (p : r1.p x H) (q : r2.p y H) (hQ : ∀ H', Ext H H' → Q (.bl b) H') :
    wpAny (model X.prog X.w) X.A (richCompare .Eq u v) (EP X pins σ Q) X.xe s := by
  refine wpAny_mono (h X.A pins s σ H x y u v ⟨hr, rfl⟩ I rx ry p q) (fun r s' z => ?_) fun _ _ x => x
  obtain ⟨hr', H', I', e⟩ := z
  subst hr'
  exact ⟨.bl b, H', I', rfl, hQ H' e⟩
/-! ### == that only looks -/
theorem epb_tupR {X : Cx} {n : Nat} {rs ss : List Rel} {b : Bool} (h : Prb (EPB X n) rs ss b) {A : Around} (hu : A.units + 65 + n < cLine) {pins : List (Addr × Obj)} {s : Shared} {σ : L2.St} {H : Hp} {x y : V} {u v : Value} (I : Inv X pins σ H s) (rx : RelV x u) (ry : RelV y v) (p : (rTup X.K rs).p x H) (q : (rTup X.K ss).p y H)
    (E Q : Value → Shared → Prop) (hQ : Q (.bool b) s) : wpAny (model X.prog X.w) A (richCompare .Eq u v) Q E s := by
  obtain ⟨a, xs, rfl, hs, hal⟩ := p
  obtain ⟨c, ys, rfl, hs', hal'⟩ := q
  cases rx
  cases ry
  obtain ⟨its, r, e, _⟩ := I.tuple hs
  obtain ⟨its2, r2, e2, _⟩ := I.tuple hs'
  obtain ⟨f, g1, g2, g3⟩ := h.at hal hal' r r2
  refine Bq.rc_tupB f b (by omega) (fun _ s' => s' = s) e e2 (fun i h1 h2 s' es => ?_) (fun i h1 h2 hf => g2 i (by simpa using h1) (by simpa using h2) hf) (fun hf => ?_) (fun i s' es => by rw [es]; exact hQ) rfl
  · subst es
    have h1' : i < its.length := by simpa using h1
    have h2' : i < its2.length := by simpa using h2
    obtain ⟨rr, tt, x, y, hR, rx, ry, px, qy⟩ := g1 i h1' h2'
    exact hR.2 A.in1 (by show A.units + 1 + 64 + n < cLine; omega) pins s' σ H x y its.toArray[i] its2.toArray[i] I (by simpa using rx) (by simpa using ry) px qy _ _ ⟨rfl, rfl⟩
  · rw [g3 fun i h1 h2 => hf i (by simpa using h1) (by simpa using h2)]
    simp
theorem Prb.sm {X : Cx} {n : Nat} {rs ss : List Rel} {b : Bool} (h : Prb (EPB X n) rs ss b) : Prb (SmB X) rs ss b := h.imp fun _ _ _ z => z.1
theorem epb_tup {X : Cx} {n : Nat} {rs ss : List Rel} {b : Bool} (h : Prb (EPB X n) rs ss b) : EPB X (n + 1) (rTup X.K rs) (rTup X.K ss) b := by
  refine ⟨smB_tup h.sm, fun A hu pins s σ H x y u v I rx ry p q => ?_⟩
  obtain ⟨a, xs, ea, _⟩ := id p
  obtain ⟨c, ys, ec, _⟩ := id q
  subst ea ec
  cases (show u = Value.ref a from rx)
  cases (show v = Value.ref c from ry)
  by_cases e : a = c
  · subst e
    rw [smB_tup h.sm pins s σ H (.ref a) (.ref a) (.ref a) I rfl rfl p q]
    exact (SeqAt.EqAt.same _).eqP
  · exact eqP_refs e fun E Q hQ => epb_tupR (x := .ref a) (y := .ref c) (u := .ref a) (v := .ref c) h (by omega) I rfl rfl p q E Q hQ
theorem epb_lstR {X : Cx} {n : Nat} {rs ss : List Rel} {b : Bool} (hl : rs.length = ss.length) (h : Prb (EPB X n) rs ss b) {A : Around} (hu : A.units + 65 + n < cLine) {pins : List (Addr × Obj)} {s : Shared} {σ : L2.St} {H : Hp} {x y : V} {u v : Value} (I : Inv X pins σ H s) (rx : RelV x u) (ry : RelV y v) (p : (rLst rs).p x H) (q : (rLst ss).p y H)
    (E Q : Value → Shared → Prop) (hQ : Q (.bool b) s) : wpAny (model X.prog X.w) A (richCompare .Eq u v) Q E s := by
  obtain ⟨a, o, xs, rfl, ha, hal⟩ := p
  obtain ⟨c, o', ys, rfl, hc, hal'⟩ := q
  cases rx
  cases ry
  obtain ⟨us, r1, p1, _⟩ := I.list (.inl (.inr ⟨o, ha⟩))
  obtain ⟨vs, r2, p2, _⟩ := I.list (.inl (.inr ⟨o', hc⟩))
  obtain ⟨f, g1, g2, g3⟩ := h.at hal hal' r1 r2
  have hz : us.length = vs.length := by rw [← r1.length, ← r2.length, ← Paired.length hal, ← Paired.length hal', hl]
  have hsz : us.toArray.size = vs.toArray.size := by simpa using hz
  refine rcP_lists (e := f) p1.isList p2.isList hsz (by omega) (fun j h1 h2 => ?_) E Q ?_
  · have h1' : j < us.length := by simpa using h1
    have h2' : j < vs.length := by simpa using h2
    obtain ⟨rr, tt, x, y, hR, rx, ry, px, qy⟩ := g1 j h1' h2'
    exact hR.2 A.in1 (by show A.units + 1 + 64 + n < cLine; omega) pins s σ H x y us.toArray[j] vs.toArray[j] I (by simpa using rx) (by simpa using ry) px qy
  · have eb : (List.range us.toArray.size).all f = b := by
      rw [show us.toArray.size = us.length by simp]
      cases hall : (List.range us.length).all f with
      | true =>
        rw [g3 fun i h1 _ => List.all_eq_true.mp hall i (List.mem_range.mpr h1), hz]
        simp
      | false =>
        rw [List.all_eq_false] at hall
        obtain ⟨i, hi, hf⟩ := hall
        have hi := List.mem_range.mp hi
        exact (g2 i hi (by omega) (by simpa using hf)).symm
    rw [eb]
    exact hQ
theorem epb_lst {X : Cx} {n : Nat} {rs ss : List Rel} {b : Bool} (hl : rs.length = ss.length) (h : Prb (EPB X n) rs ss b) : EPB X (n + 1) (rLst rs) (rLst ss) b := by
  refine ⟨smB_lst h.sm, fun A hu pins s σ H x y u v I rx ry p q => ?_⟩
  obtain ⟨a, o, xs, ea, _⟩ := id p
  obtain ⟨c, o', ys, ec, _⟩ := id q
  subst ea ec
  cases (show u = Value.ref a from rx)
  cases (show v = Value.ref c from ry)
  by_cases e : a = c
  · subst e
    rw [smB_lst h.sm pins s σ H (.ref a) (.ref a) (.ref a) I rfl rfl p q]
    exact (SeqAt.EqAt.same _).eqP
  · exact eqP_refs e fun E Q hQ => epb_lstR (x := .ref a) (y := .ref c) (u := .ref a) (v := .ref c) hl h (by omega) I rfl rfl p q E Q hQ
/-- items told by one word -/
theorem prb_map {α β : Type} {R : Rel → Rel → Bool → Prop} {f : α → Rel} {g : β → Rel} {q : α → β → Bool} {p1 : α → Prop} {p2 : β → Prop} (h : ∀ a b, p1 a → p2 b → R (f a) (g b) (q a b)) : ∀ (L : List α) (M : List β), (∀ a ∈ L, p1 a) → (∀ b ∈ M, p2 b) →
    Prb R (L.map f) (M.map g) (decide (L.length = M.length) && (L.zip M).all fun z => q z.1 z.2)
  | [], [], _, _ => .nil
  | [], _ :: _, _, _ => .short
  | _ :: _, [], _, _ => .long
  | a :: L, b :: M, h1, h2 => by
    have t := prb_map h L M (fun a ha => h1 a (List.mem_cons_of_mem _ ha)) fun b hb => h2 b (List.mem_cons_of_mem _ hb)
    have e : (decide ((a :: L).length = (b :: M).length) && ((a :: L).zip (b :: M)).all fun z => q z.1 z.2) = (q a b && (decide (L.length = M.length) && (L.zip M).all fun z => q z.1 z.2)) := by
      rw [List.zip_cons_cons, List.all_cons]
      have : decide ((a :: L).length = (b :: M).length) = decide (L.length = M.length) := by rw [decide_eq_decide, List.length_cons, List.length_cons]; omega
      rw [this]
      cases q a b <;> simp
    rw [e]
    exact .cons (h a b (h1 a List.mem_cons_self) (h2 b List.mem_cons_self)) t
end BX
set_option Elab.async false
set_option linter.all false
set_option maxRecDepth 100000
set_option maxHeartbeats 2000000
/-! E14: pop and len of a growing list, an item of a list put; a dict of the module with text keys. -/
namespace EX
open PySem PySem.Spec PySem.Calls PyProof.Rows L2 BX
section
variable {X : Cx} {K : PySem.W.Frag} {o : Expr} {td : TE} {apos cpos : Pos}
theorem q_pop (hK : X.K = K) (ho : PE X o td) (hbase : attributeBase o "pop" X.env (eval o X.env) = eval o X.env := by rfl) (hline : (apos.endLine == cpos.line) = true := by rfl) :
    PE X (.Call (.Attribute o "pop" apos) [] [] cpos) (tBM0 K "list" rPop td) := by subst hK; exact pe_bm0 PySem.F.plainAttrs_list PySem.F.slot_list_pop PySem.F.type_list_pop mt_pop ho hbase hline
end
section
variable {B : Bd} {Γ : BX.Ctx} {D : Ends} {k : Rel → Prop}
theorem paired_last {α β : Type} {R : α → β → Prop} : ∀ {xs : List α} {a : α} {ys : List β}, Paired R (xs ++ [a]) ys → ∃ b, ys[ys.length - 1]? = some b ∧ R a b ∧ Paired R xs ys.dropLast
  | [], a, _, .cons h .nil => ⟨_, rfl, h, .nil⟩
  | x :: xs, a, y :: ys, .cons h t => by
    obtain ⟨b, h1, h2, h3⟩ := paired_last t
    have hl : 0 < ys.length := by
      rw [← Paired.length t]
      show 0 < (xs ++ [a]).length
      rw [List.length_append]
      exact Nat.succ_pos _
    refine ⟨b, ?_, h2, ?_⟩
    · rw [List.length_cons, Nat.add_sub_cancel]
      obtain ⟨n, hn⟩ : ∃ n, ys.length = n + 1 := ⟨ys.length - 1, by omega⟩
      rw [hn, List.getElem?_cons_succ]
      rw [hn, Nat.add_sub_cancel] at h1
      exact h1
    · cases ys with
      | nil => exact absurd hl (Nat.lt_irrefl 0)
      | cons z ys =>
        rw [List.dropLast_cons_cons]
        exact .cons h h3
/-- y = xs.pop() -/
theorem ws_pop {i j : Nat} {rs : List Rel} {r : Rel} {tz : TS} (hi : Γ[i]? = some (.ml (rs ++ [r]))) (h : WpS B D ((Γ.set i (.ml rs)).set j (.im r)) tz) :
    WpS B D Γ (tSeq (tAsg (tBM0 B.K "list" rPop (tVar i)) (gName j)) tz) := fun σ H E => by
  obtain ⟨ov, h1, l, xs, rfl, h0, hl, hal⟩ := E.ty i _ hi
  obtain ⟨b, p1, p2, p3⟩ := paired_last hal
  refine ⟨_, h1, .inl ⟨rfl, _, .inl (.inl hl)⟩, l, xs, b, rfl, rfl, hl, p1, ?_⟩
  have im : Im H (upd H l (.lst xs.dropLast)) := Im.upd hl lst_c
  have E1 := E.chg (t' := .ml rs) hi rfl h1 hl lst_c h0 ⟨l, _, rfl, h0, upd_same, Al.st im p3⟩
  exact h _ _ (E1.set j (r.st im p2))
/-- len(xs) -/
theorem we_lenM {i : Nat} {rs : List Rel} (hi : Γ[i]? = some (.ml rs)) (q : k (rInt rs.length)) : WpE B Γ (tCB (rLenS B.K) (tCons (tVar i) tNil)) k := fun σ H E Q hQ => by
  obtain ⟨ov, h1, l, xs, rfl, h0, hl, hal⟩ := E.ty i _ hi
  refine ⟨_, h1, l, xs, rfl, .inl (.inl (.inl hl)), ?_⟩
  rw [← Paired.length hal]
  exact hQ _ _ H q rfl (Same.refl H)
/-- xs[j] = e -/
theorem ws_putL {i : Nat} {j : Nat} {rs : List Rel} {te : TE} {tz : TS} (hi : Γ[i]? = some (.ml rs)) (hj : j < rs.length) (h : WpE B Γ te fun r => WpS B D (Γ.set i (.ml (rs.set j r))) tz) :
    WpS B D Γ (tSeq (tAsg te (gSub (tVar i) (tC (.int (j : Int))) rSetL)) tz) := fun σ H E => by
  refine h σ H E _ fun r v H1 q p e => ?_
  obtain ⟨ov, h1, l, xs, rfl, h0, hl, hal⟩ := E.ty i _ hi
  have lx : xs.length = rs.length := (Paired.length hal).symm
  have hl1 := e _ _ hl
  have hal1 := hal.st (Same.im e)
  refine ⟨_, h1, l, xs, (j : Int), j, rfl, rfl, hl1, ?_, ?_⟩
  · unfold ixN
    rw [if_pos (by omega), if_pos (by omega), Int.toNat_natCast]
  · have im : Im H1 (upd H1 l (.lst (xs.set j v))) := Im.upd hl1 lst_c
    exact q _ _ ((E.mono e).chg hi rfl h1 hl1 lst_c h0 ⟨l, _, rfl, h0, upd_same, Al.st im (al_set j hal1 p)⟩)
end
/-! ### a dict of the module -/
def rNotKd (K : PySem.W.Frag) (d : Addr) : R2 := fun x y H Q => ∃ (z : Str) (r : Option Value), x = .str z ∧ y = .ref d ∧ PySem.W.nsIn K d z = some r ∧ Q (.bl (!r.isSome)) H
theorem k_notKd {X : Cx} {w : World} {K : PySem.W.Frag} {d : Addr} {es : Array DictEntry} {n : Nat} (hK : X.K = K) (hw : X.w = w) (D : KDict K w d es n) : OpR X (compareOp .NotIn) (rNotKd K d) := by
  subst hK hw
  exact op_notIn_kd D
theorem ot_notKd {B : Bd} {k : Rel → Prop} {d : Addr} {z : Str} {r : Option Value} (h : PySem.W.nsIn B.K d z = some r) (q : k (rBl (!r.isSome))) : OpT B (rNotKd B.K d) (rStr z) (rC (.ref d)) k := fun H x y _ h1 h2 Q hQ => by
  cases h1
  cases h2
  exact ⟨z, r, rfl, rfl, h, hQ _ _ H q rfl (Same.refl H)⟩
theorem k_ixD {X : Cx} {w : World} {K : PySem.W.Frag} (hK : X.K = K) (hw : X.w = w) : IxR X (rIxD K w) := by
  subst hK hw
  exact ix_kdict
theorem ot_ixD {B : Bd} {k : Rel → Prop} {d : Addr} {z : Str} {v : V} (h : KDct B.K B.w d z v) (q : k (rC v)) : OpT B (rIxD B.K B.w) (rC (.ref d)) (rStr z) k := fun H x y _ h1 h2 Q hQ => by
  cases h1
  cases h2
  exact ⟨d, z, v, rfl, rfl, h, hQ _ _ H q rfl (Same.refl H)⟩
theorem kit_str {K : PySem.W.Frag} (d : Dt) : PySem.W.kitOne K (.type (tyD d)) (.type "str") = some (isInst d "str") := by
  cases d with
  | non => exact kit_ty (a := "NoneType") (r := false) (by decide +kernel)
  | bl b => exact kit_ty (a := "bool") (r := false) (by decide +kernel)
  | int i => exact kit_ty (a := "int") (r := false) (by decide +kernel)
  | str s => exact kit_ty (a := "str") (r := true) (by decide +kernel)
  | tup l => exact kit_ty (a := "tuple") (r := false) (by decide +kernel)
  | lst l => exact kit_ty (a := "list") (r := false) (by decide +kernel)
  | dic => exact kit_ty (a := "dict") (r := false) (by decide +kernel)
end EX
set_option Elab.async false
set_option linter.all false
set_option maxRecDepth 100000
set_option maxHeartbeats 2000000
/-! E15: tuple * int, any small count, the tuple perhaps empty. -/
namespace BX
open PySem PySem.Spec PyProof.Rows L2
theorem tuple_mulE (l : Addr) (n : Nat) (dd : Option Addr) (sl : Array (Option Value)) (x : Int) (u : Tok) (c0 : (decide (x < -(2 ^ 63)) || decide (x ≥ 2 ^ 63)) = false) :
    Meets (Builtin.«tuple.__mul__» ⟨[.ref l, .int x u], []⟩) (fun _ R s => s.heap.get? l = some { cls := .type "tuple", dict := dd, data := .seq #[] n, slots := sl } ∧ R (.ok (.ret (Value.ref l))) s) :=
  .of_wp fun prog w A R s h => by
    obtain ⟨hp, g, d, tk, os⟩ := s
    obtain ⟨hl, h⟩ := h
    have f1 := AutoSeq1.idx_int
    wp_walk using wpAny_loadPart' hl
    refine wpAny_ite_false (decide_eq_false (by rw [c0]; exact Bool.false_ne_true)) ?_
    wp_walk using wpAny_loadPart' hl
    exact ⟨_, rfl, h⟩
theorem tuple_mul0 (l : Addr) (items : Array Value) (n : Nat) (dd : Option Addr) (sl : Array (Option Value)) (u : Tok) (c1 : items.isEmpty = false) :
    Meets (Builtin.«tuple.__mul__» ⟨[.ref l, .int 0 u], []⟩) (fun _ R s => s.heap.get? l = some { cls := .type "tuple", dict := dd, data := .seq items n, slots := sl } ∧
      R (.ok (.ret (Value.ref s.heap.objs.size))) { s with heap := s.heap.push { cls := Value.type "tuple", data := Data.seq #[] }, toks := s.toks }) :=
  .of_wp fun prog w A R s h => by
    obtain ⟨hp, g, d, tk, os⟩ := s
    obtain ⟨hl, h⟩ := h
    have f1 := AutoSeq1.idx_int
    wp_walk using wpAny_loadPart' hl
    exact ⟨_, rfl, h⟩
def rRepE (K : PySem.W.Frag) : R2 := fun x y H Q => ∃ l k, x = .ref l ∧ y = .int k ∧ SqT K H l [] ∧ 0 ≤ k ∧ k ≤ 1000 ∧ Q (.ref l) H
def rRep0 (K : PySem.W.Frag) : R2 := fun x y H Q => ∃ l xs, x = .ref l ∧ y = .int 0 ∧ SqT K H l xs ∧ xs ≠ [] ∧ ∀ p, H p = none → Q (.ref p) (upd H p (.tup []))
theorem op_repE {X : Cx} : OpR X (binaryOp .Mult) (rRepE X.K) := by
  intro pins s σ H x y v u Q I rx ry h
  obtain ⟨l, k, rfl, rfl, hT, h1, h2, q⟩ := h
  cases rx
  obtain ⟨t, rfl⟩ := ry
  obtain ⟨its, r, ⟨⟨cls, dd, data, sl⟩, ho, hc, n, hd⟩, hs⟩ := I.tuple hT
  simp only at hc hd
  subst hc hd
  have hi : its = [] := by
    have := r.length
    exact List.eq_nil_of_length_eq_zero this.symm
  subst hi
  have c0 : (decide (k < -(2 ^ 63)) || decide (k ≥ 2 ^ 63)) = false := by
    rw [decide_eq_false (by omega), decide_eq_false (by omega)] <;> rfl
  refine wpAny_binaryOp_repeat_ref (T := "tuple") (U := "int") (by decide) ⟨_, ho, rfl⟩ (fun s' => typeIs_int s' k t) noFill_tuple_mul F.fills_int_mul F.slot_int_rmul repeat_tuple F.slot_int_index.lookup
    (call_meets F.slot_int_rmul (typeIs_int s k t) F.entry_int_rmul (F.args_int_rmul_2 _ _) (int_rmul_tuple k t l #[] n dd sl)
      ⟨ho, rfl, ⟨_, ho, rfl⟩, call_meets F.slot_tuple_mul ⟨_, ho, rfl⟩ F.entry_tuple_mul (F.args_tuple_mul_2 _ _) (tuple_mulE l n dd sl k t c0) ⟨ho, ?_⟩⟩)
  exact ⟨.ref l, _, I, rfl, q⟩
theorem op_rep0 {X : Cx} : OpR X (binaryOp .Mult) (rRep0 X.K) := by
  intro pins s σ H x y v u Q I rx ry h
  obtain ⟨l, xs, rfl, rfl, hT, hne, q⟩ := h
  cases rx
  obtain ⟨t, rfl⟩ := ry
  obtain ⟨its, r, ⟨⟨cls, dd, data, sl⟩, ho, hc, n, hd⟩, hs⟩ := I.tuple hT
  simp only at hc hd
  subst hc hd
  have hi : its.toArray.isEmpty = false := by
    cases its with
    | nil =>
      cases r
      exact absurd rfl hne
    | cons a b => rfl
  refine wpAny_binaryOp_repeat_ref (T := "tuple") (U := "int") (by decide) ⟨_, ho, rfl⟩ (fun s' => typeIs_int s' 0 t) noFill_tuple_mul F.fills_int_mul F.slot_int_rmul repeat_tuple F.slot_int_index.lookup
    (call_meets F.slot_int_rmul (typeIs_int s 0 t) F.entry_int_rmul (F.args_int_rmul_2 _ _) (int_rmul_tuple 0 t l its.toArray n dd sl)
      ⟨ho, rfl, ⟨_, ho, rfl⟩, call_meets F.slot_tuple_mul ⟨_, ho, rfl⟩ F.entry_tuple_mul (F.args_tuple_mul_2 _ _) (tuple_mul0 l its.toArray n dd sl t hi) ⟨ho, ?_⟩⟩)
  refine ⟨.ref s.heap.objs.size, _, I.laid (t' := s.toks) (o := .tup []) (fun b ob q => Heap.get?_push_of_some _ q) (Nat.le_refl _) ?_, rfl, q _ (I.hok.fresh (Nat.le_refl _))⟩
  exact ⟨Nat.zero_le _, [], .nil, IsTup.new _ _⟩
def rRepA (K : PySem.W.Frag) : R2 := fun x y H Q => (rRepT K x y H Q ∨ rRep1 K x y H Q) ∨ (rRepE K x y H Q ∨ rRep0 K x y H Q)
theorem k_repA {X : Cx} {K : PySem.W.Frag} (hK : X.K = K) : OpR X (binaryOp .Mult) (rRepA K) := by
  subst hK
  intro pins s σ H x y v u Q I rx ry h
  rcases h with (h | h) | (h | h)
  · exact op_repT pins s σ H x y v u Q I rx ry h
  · exact op_rep1 pins s σ H x y v u Q I rx ry h
  · exact op_repE pins s σ H x y v u Q I rx ry h
  · exact op_rep0 pins s σ H x y v u Q I rx ry h
theorem ot_repA {B : Bd} {k : Rel → Prop} {rs : List Rel} {n : Nat} (h2 : n ≤ 1000) (h3 : rs.length ≤ 1000) (q : k (rTup B.K (List.replicate n rs).flatten)) : OpT B (rRepA B.K) (rTup B.K rs) (rInt (n : Int)) k := fun H x y sb hx hy Q hQ => by
  by_cases hr : rs = []
  · subst hr
    obtain ⟨a, xs, rfl, hs, hal⟩ := id hx
    cases hy
    cases hal
    refine .inr (.inl ⟨a, n, rfl, rfl, hs, by omega, by omega, ?_⟩)
    have e : (List.replicate n ([] : List Rel)).flatten = [] := by simp
    rw [e] at q
    exact hQ _ _ H q hx (Same.refl H)
  match n, h2, q with
  | 0, _, q =>
    obtain ⟨a, xs, rfl, hs, hal⟩ := id hx
    cases hy
    refine .inr (.inr ⟨a, xs, rfl, rfl, hs, fun e => hr (by subst e; cases hal; rfl), fun p hp => ?_⟩)
    exact hQ _ _ _ q ⟨p, _, rfl, .inl (.inl upd_same), .nil⟩ (Same.new hp)
  | 1, _, q =>
    have e : (List.replicate 1 rs).flatten = rs := by simp
    rw [e] at q
    exact .inl (.inr (ot_rep1 q H x y sb hx hy Q hQ))
  | n + 2, h2, q =>
    refine .inl (.inl (EX.ot_repT hr (by omega) (by omega) h3 ?_ H x y sb hx hy Q hQ))
    rw [Int.toNat_natCast]
    exact q
end BX
namespace EX
open PySem PySem.Spec PyProof.Rows L2 BX
/-- [..] * n, n in a slot -/
theorem wl_repV {B : Bd} {Γ : BX.Ctx} {te : TE} {i n : Nat} {kl : List Rel → Prop} (hi : Γ[i]? = some (.im (rInt (n : Int)))) (h : WpL B Γ te fun rs => (n ≤ 1000 ∧ rs.length ≤ 1000) ∧ kl (List.replicate n rs).flatten) : WpL B Γ (tOp rRep te (tVar i)) kl := fun σ H En Q hQ => by
  obtain ⟨v, hv, pv⟩ := En.im_at hi
  cases pv
  refine h σ H En _ fun rs p xs H1 ⟨⟨h2, h3⟩, hk⟩ hp e1 hx hal => ?_
  refine ⟨_, hv, ?_⟩
  have hl := Paired.length hal
  refine ⟨p, n, xs, rfl, rfl, hx, by omega, by omega, ?_, fun q hq => ?_⟩
  · have : xs.length * n ≤ 1000 * 1000 := Nat.mul_le_mul (by omega) (by omega)
    rw [sizeLine_eq, Int.toNat_natCast]
    omega
  · have hk' : kl (List.replicate ((n : Int)).toNat rs).flatten := by rw [Int.toNat_natCast]; exact hk
    exact hQ _ q _ _ hk' (Same.free e1 hq) (Same.trans e1 (Same.new hq)) upd_same (Al.st (Same.im (Same.new hq)) (al_rep hal _))
end EX
set_option Elab.async false
set_option linter.all false
set_option maxRecDepth 100000
set_option maxHeartbeats 1000000
/-! Polynomials as tables: bounds and the ring. -/
namespace Lw
open BX
/-! ### few keys -/
theorem nodup_lt : ∀ (N : Nat) (l : List Nat), l.Nodup → (∀ x ∈ l, x < N) → l.length ≤ N
  | 0, l, _, h => by
    cases l with
    | nil => exact Nat.le_refl _
    | cons x l => exact absurd (h x (List.mem_cons_self ..)) (Nat.not_lt_zero _)
  | N + 1, l, nd, h => by
    by_cases m : N ∈ l
    · have ih := nodup_lt N (l.erase N) (nd.erase N) fun x hx => by
        rw [nd.mem_erase_iff] at hx
        have := h x hx.2
        omega
      rw [List.length_erase_of_mem m] at ih
      omega
    · have ih := nodup_lt N l nd fun x hx => by
        have := h x hx
        have : x ≠ N := fun z => m (z ▸ hx)
        omega
      omega
structure B4 where
  a : Nat
  b : Nat
  c : Nat
  d : Nat
/-- the key lies in the box -/
def In (B : B4) (k : List Int) : Prop := ∃ x y z u : Nat, k = [(x : Int), (y : Int), (z : Int), (u : Int)] ∧ x ≤ B.a ∧ y ≤ B.b ∧ z ≤ B.c ∧ u ≤ B.d
def B4.vol (B : B4) : Nat := (B.a + 1) * (B.b + 1) * (B.c + 1) * (B.d + 1)
def B4.add (B C : B4) : B4 := ⟨B.a + C.a, B.b + C.b, B.c + C.c, B.d + C.d⟩
def B4.mul (n : Nat) (B : B4) : B4 := ⟨n * B.a, n * B.b, n * B.c, n * B.d⟩
theorem In.len {B : B4} {k : List Int} (h : In B k) : k.length = 4 := by
  obtain ⟨x, y, z, u, rfl, _⟩ := h
  rfl
theorem In.add {B C : B4} {k l : List Int} (h : In B k) (g : In C l) : In (B.add C) (add4 k l) := by
  obtain ⟨x, y, z, u, rfl, h1, h2, h3, h4⟩ := h
  obtain ⟨x', y', z', u', rfl, g1, g2, g3, g4⟩ := g
  exact ⟨x + x', y + y', z + z', u + u', by simp [add4], by show _ ≤ B.a + C.a; omega, by show _ ≤ B.b + C.b; omega, by show _ ≤ B.c + C.c; omega, by show _ ≤ B.d + C.d; omega⟩
def code (B : B4) (k : List Int) : Nat := (((k.getD 0 0).toNat * (B.b + 1) + (k.getD 1 0).toNat) * (B.c + 1) + (k.getD 2 0).toNat) * (B.d + 1) + (k.getD 3 0).toNat
theorem mix_lt {x n y m : Nat} (hx : x < n) (hy : y < m) : x * m + y < n * m := by
  have : (x + 1) * m ≤ n * m := Nat.mul_le_mul_right m hx
  rw [Nat.add_mul, Nat.one_mul] at this
  omega
theorem mix_inj {x y x' y' m : Nat} (hy : y < m) (hy' : y' < m) (e : x * m + y = x' * m + y') : x = x' ∧ y = y' := by
  have h0 : 0 < m := by omega
  have e1 : (x * m + y) / m = x := by rw [Nat.mul_comm, Nat.mul_add_div h0, Nat.div_eq_of_lt hy, Nat.add_zero]
  have e2 : (x' * m + y') / m = x' := by rw [Nat.mul_comm, Nat.mul_add_div h0, Nat.div_eq_of_lt hy', Nat.add_zero]
  have : x = x' := by rw [← e1, ← e2, e]
  subst this
  omega
theorem code_lt {B : B4} {k : List Int} (h : In B k) : code B k < B.vol := by
  obtain ⟨x, y, z, u, rfl, h1, h2, h3, h4⟩ := h
  show ((x * (B.b + 1) + y) * (B.c + 1) + z) * (B.d + 1) + u < (B.a + 1) * (B.b + 1) * (B.c + 1) * (B.d + 1)
  exact mix_lt (mix_lt (mix_lt (by omega) (by omega)) (by omega)) (by omega)
theorem code_inj {B : B4} {k l : List Int} (h : In B k) (g : In B l) (e : code B k = code B l) : k = l := by
  obtain ⟨x, y, z, u, rfl, h1, h2, h3, h4⟩ := h
  obtain ⟨x', y', z', u', rfl, g1, g2, g3, g4⟩ := g
  have e' : ((x * (B.b + 1) + y) * (B.c + 1) + z) * (B.d + 1) + u = ((x' * (B.b + 1) + y') * (B.c + 1) + z') * (B.d + 1) + u' := e
  obtain ⟨e1, rfl⟩ := mix_inj (by omega) (by omega) e'
  obtain ⟨e2, rfl⟩ := mix_inj (by omega) (by omega) e1
  obtain ⟨rfl, rfl⟩ := mix_inj (by omega) (by omega) e2
  rfl
theorem box_few {B : B4} : ∀ {l : List (List Int)}, l.Nodup → (∀ k ∈ l, In B k) → l.length ≤ B.vol := by
  intro l nd h
  have nd' : (l.map (code B)).Nodup := by
    induction l with
    | nil => exact List.nodup_nil
    | cons k l ih =>
      rw [List.map_cons, List.nodup_cons]
      rw [List.nodup_cons] at nd
      refine ⟨fun m => ?_, ih nd.2 fun k hk => h k (List.mem_cons_of_mem _ hk)⟩
      obtain ⟨k', hk', e⟩ := List.mem_map.mp m
      have := code_inj (h k' (List.mem_cons_of_mem _ hk')) (h k (List.mem_cons_self ..)) e
      exact nd.1 (this ▸ hk')
  have := nodup_lt B.vol (l.map (code B)) nd' fun x hx => by
    obtain ⟨k, hk, rfl⟩ := List.mem_map.mp hx
    exact code_lt (h k hk)
  rw [List.length_map] at this
  exact this

/-! ### one value a key -/
theorem getM_none {κ α : Type} [DecidableEq κ] {m : List (κ × α)} {k : κ} : getM m k = none ↔ k ∉ m.map (·.1) := by
  induction m with
  | nil => simp [getM]
  | cons e m ih =>
    rw [getM_cons, List.map_cons, List.mem_cons]
    by_cases c : e.1 = k
    · rw [if_pos c]; simp [c]
    · rw [if_neg c, ih]
      constructor
      · intro h z
        rcases z with z | z
        · exact c z.symm
        · exact h z
      · exact fun h z => h (.inr z)
theorem getM_mem {κ α : Type} [DecidableEq κ] {m : List (κ × α)} (nd : (m.map (·.1)).Nodup) {e : κ × α} (h : e ∈ m) : getM m e.1 = some e.2 := by
  induction m with
  | nil => cases h
  | cons d m ih =>
    rw [getM_cons]
    rw [List.map_cons, List.nodup_cons] at nd
    rcases List.mem_cons.mp h with h | h
    · rw [h, if_pos rfl]
    · rw [if_neg (fun (z : d.1 = e.1) => nd.1 (by rw [z]; exact List.mem_map_of_mem h))]
      exact ih nd.2 h
theorem mem_getM {κ α : Type} [DecidableEq κ] {m : List (κ × α)} {k : κ} {a : α} (h : getM m k = some a) : (k, a) ∈ m := by
  induction m with
  | nil => cases h
  | cons d m ih =>
    rw [getM_cons] at h
    by_cases c : d.1 = k
    · rw [if_pos c] at h
      cases h
      rw [← c]
      exact List.mem_cons_self ..
    · rw [if_neg c] at h
      exact List.mem_cons_of_mem _ (ih h)
theorem getM_put {κ α : Type} [DecidableEq κ] (m : List (κ × α)) (k j : κ) (a : α) : getM (putM m k a) j = if j = k then some a else getM m j := by
  unfold putM
  by_cases c : (getM m k).isSome = true
  · rw [if_pos c]
    have key : ∀ l : List (κ × α), getM (l.map fun e => if e.1 = k then (e.1, a) else e) j = if j = k then (getM l k).map fun _ => a else getM l j := by
      intro l
      induction l with
      | nil => simp [getM]
      | cons e l ih =>
        rw [List.map_cons, getM_cons, getM_cons, getM_cons]
        by_cases e1 : e.1 = k
        · simp only [e1, if_true]
          by_cases e2 : k = j
          · simp [e2]
          · rw [if_neg e2, ih, if_neg e2]
            simp [Ne.symm e2]
        · simp only [e1, if_false]
          by_cases e2 : e.1 = j
          · have : ¬ j = k := fun z => e1 (e2.trans z)
            simp [e2, this]
          · rw [if_neg e2, ih, if_neg e2]
    rw [key]
    split
    · obtain ⟨x, hx⟩ := Option.isSome_iff_exists.mp c
      rw [hx]; rfl
    · rfl
  · rw [if_neg c]
    have hn : getM m k = none := by cases h : getM m k with
      | none => rfl
      | some x => rw [h] at c; exact absurd rfl c
    have key : ∀ l : List (κ × α), getM l k = none → getM (l ++ [(k, a)]) j = if j = k then some a else getM l j := by
      intro l
      induction l with
      | nil =>
        intro _
        rw [List.nil_append, getM_cons]
        by_cases e : k = j
        · simp [e]
        · simp [e, Ne.symm e, getM]
      | cons e l ih =>
        intro h
        rw [getM_cons] at h
        by_cases e1 : e.1 = k
        · rw [if_pos e1] at h; cases h
        · rw [if_neg e1] at h
          rw [List.cons_append, getM_cons, getM_cons, ih h]
          by_cases e2 : e.1 = j
          · have : ¬ j = k := fun z => e1 (e2.trans z)
            simp [e2, this]
          · simp [e2]
    exact key m hn
theorem cf_putA (m : PT) (k j : List Int) (c : Int) : cf (putA m k c) j = cf m j + if j = k then c else 0 := by
  show (getM (putM m k (cf m k + c)) j).getD 0 = _
  rw [getM_put]
  by_cases h : j = k
  · subst h
    rw [if_pos rfl, if_pos rfl]
    rfl
  · rw [if_neg h, if_neg h, Int.add_zero]
    rfl
theorem putM_nodup' {κ α : Type} [DecidableEq κ] {m : List (κ × α)} {k : κ} {a : α} (h : (m.map (·.1)).Nodup) : ((putM m k a).map (·.1)).Nodup := by
  unfold putM
  split
  · rw [List.map_map]
    have e : ((fun x : κ × α => x.1) ∘ fun e : κ × α => if e.1 = k then (e.1, a) else e) = fun e => e.1 := by
      funext e
      show (if e.1 = k then (e.1, a) else e).1 = e.1
      split <;> rfl
    rw [e]
    exact h
  · rename_i c
    rw [List.map_append, List.nodup_append]
    refine ⟨h, by simp, fun x hx y hy => ?_⟩
    have hy' : y = k := by simpa using hy
    subst hy'
    intro z
    subst z
    have hn : getM m x = none := by cases q : getM m x with
      | none => rfl
      | some z => rw [q] at c; exact absurd rfl c
    exact getM_none.mp hn hx

/-! ### canonical tables -/
/-- sorted strictly, no noughts -/
structure Can (A : PT) : Prop where
  st : A.Pairwise fun a b => a.1 < b.1
  nz : ∀ e ∈ A, e.2 ≠ 0
theorem Can.nd {A : PT} (h : Can A) : (A.map (·.1)).Nodup := by
  rw [List.nodup_iff_pairwise_ne, List.pairwise_map]
  exact h.st.imp fun {a b} l z => by
    rw [z] at l
    exact List.lt_irrefl _ l
theorem keyLe_iff {a b : List Int} : keyLe a b = true ↔ a ≤ b := by unfold keyLe; simp
theorem can_canon {m : PT} (nd : (m.map (·.1)).Nodup) : Can (canon m) := by
  refine ⟨?_, fun e he => ?_⟩
  · unfold canon
    rw [List.pairwise_filterMap]
    have h1 : ((m.map (·.1)).mergeSort keyLe).Pairwise fun a b => keyLe a b = true := List.pairwise_mergeSort (fun a b c h1 h2 => by
        rw [keyLe_iff] at *
        exact List.le_trans h1 h2) (fun a b => by
        rw [Bool.or_eq_true, keyLe_iff, keyLe_iff]
        exact List.le_total a b) _
    have h2 : ((m.map (·.1)).mergeSort keyLe).Nodup := (List.mergeSort_perm _ _).nodup_iff.mpr nd
    rw [List.nodup_iff_pairwise_ne] at h2
    refine (h1.and h2).imp fun {a b} ⟨h, hn⟩ e1 q1 e2 q2 => ?_
    have g : ∀ {k : List Int} {e : List Int × Int}, e ∈ canonF m k → e.1 = k := by
      intro k e h
      unfold canonF at h
      split at h
      · cases h
      · cases h; rfl
    rw [g q1, g q2]
    rw [keyLe_iff] at h
    by_cases l : a < b
    · exact l
    · exact absurd (List.le_antisymm h (List.not_lt.mp l)) hn
  · unfold canon at he
    obtain ⟨k, _, hk⟩ := List.mem_filterMap.mp he
    unfold canonF at hk
    split at hk
    · cases hk
    · cases hk
      assumption
theorem mem_canon {m : PT} {k : List Int} {c : Int} : (k, c) ∈ canon m ↔ k ∈ m.map (·.1) ∧ c = cf m k ∧ c ≠ 0 := by
  unfold canon
  rw [List.mem_filterMap]
  constructor
  · rintro ⟨k', h1, h2⟩
    unfold canonF at h2
    split at h2
    · cases h2
    · cases h2
      exact ⟨List.mem_mergeSort.mp h1, rfl, by assumption⟩
  · rintro ⟨h1, h2, h3⟩
    refine ⟨k, List.mem_mergeSort.mpr h1, ?_⟩
    unfold canonF
    rw [if_neg (by rw [← h2]; exact h3), ← h2]
theorem cf_none {m : PT} {k : List Int} (h : k ∉ m.map (·.1)) : cf m k = 0 := by
  unfold cf
  rw [getM_none.mpr h]
  rfl
theorem cf_mem {m : PT} (nd : (m.map (·.1)).Nodup) {k : List Int} {c : Int} (h : (k, c) ∈ m) : cf m k = c := by
  unfold cf
  rw [getM_mem nd h]
  rfl
theorem cf_canon {m : PT} (nd : (m.map (·.1)).Nodup) (k : List Int) : cf (canon m) k = cf m k := by
  have hc := can_canon nd
  by_cases h : cf m k = 0
  · rw [h]
    refine cf_none fun hk => ?_
    obtain ⟨e, he, rfl⟩ := List.mem_map.mp hk
    obtain ⟨_, h2, h3⟩ := mem_canon.mp (show (e.1, e.2) ∈ canon m from he)
    exact h3 (h2.trans h)
  · refine cf_mem hc.nd (mem_canon.mpr ⟨?_, rfl, h⟩)
    apply Classical.byContradiction
    intro hk
    exact h (cf_none hk)
/-- canonical tables with the same values are the same -/
theorem can_ext {A B : PT} (hA : Can A) (hB : Can B) (h : ∀ k, cf A k = cf B k) : A = B := by
  have sub : ∀ {A B : PT}, Can A → Can B → (∀ k, cf A k = cf B k) → ∀ e ∈ A, e ∈ B := by
    intro A B hA hB h e he
    have h1 := cf_mem hA.nd (show (e.1, e.2) ∈ A from he)
    rw [h] at h1
    unfold cf at h1
    cases q : getM B e.1 with
    | none => rw [q] at h1; exact absurd h1.symm (hA.nz e he)
    | some c =>
      rw [q] at h1
      have h1' : c = e.2 := h1
      subst h1'
      exact mem_getM q
  have hs : ∀ {A B : PT}, A.Pairwise (fun a b => a.1 < b.1) → B.Pairwise (fun a b => a.1 < b.1) → (∀ e, e ∈ A ↔ e ∈ B) → A = B := by
    intro A
    induction A with
    | nil =>
      intro B _ _ h
      cases B with
      | nil => rfl
      | cons b B => exact absurd ((h b).mpr (List.mem_cons_self ..)) (by simp)
    | cons a A ih =>
      intro B sA sB h
      cases B with
      | nil => exact absurd ((h a).mp (List.mem_cons_self ..)) (by simp)
      | cons b B =>
        rw [List.pairwise_cons] at sA sB
        have e : a = b := by
          rcases List.mem_cons.mp ((h a).mp (List.mem_cons_self ..)) with e | m1
          · exact e
          · rcases List.mem_cons.mp ((h b).mpr (List.mem_cons_self ..)) with e | m2
            · exact e.symm
            · exact absurd (List.lt_trans (sA.1 b m2) (sB.1 a m1)) (List.lt_irrefl _)
        subst e
        rw [ih sA.2 sB.2 fun e => ?_]
        constructor
        · intro m
          rcases List.mem_cons.mp ((h e).mp (List.mem_cons_of_mem _ m)) with q | q
          · subst q; exact absurd (sA.1 _ m) (List.lt_irrefl _)
          · exact q
        · intro m
          rcases List.mem_cons.mp ((h e).mpr (List.mem_cons_of_mem _ m)) with q | q
          · subst q; exact absurd (sB.1 _ m) (List.lt_irrefl _)
          · exact q
  exact hs hA.st hB.st fun e => ⟨sub hA hB h e, sub hB hA (fun k => (h k).symm) e⟩
end Lw
set_option Elab.async false
set_option linter.all false
set_option maxRecDepth 100000
set_option maxHeartbeats 1000000
/-! The ring of polynomials: formal sums, by their values. -/
namespace Lw
open BX
abbrev M4 := Int × Int × Int × Int
abbrev FS := List (M4 × Int)
def M4.pl (x y : M4) : M4 := (x.1 + y.1, x.2.1 + y.2.1, x.2.2.1 + y.2.2.1, x.2.2.2 + y.2.2.2)
def M4.mi (x y : M4) : M4 := (x.1 - y.1, x.2.1 - y.2.1, x.2.2.1 - y.2.2.1, x.2.2.2 - y.2.2.2)
def M4.no : M4 := (0, 0, 0, 0)
theorem M4.eq {x y : M4} (h1 : x.1 = y.1) (h2 : x.2.1 = y.2.1) (h3 : x.2.2.1 = y.2.2.1) (h4 : x.2.2.2 = y.2.2.2) : x = y := by
  obtain ⟨a, b, c, d⟩ := x
  obtain ⟨a', b', c', d'⟩ := y
  simp only at h1 h2 h3 h4
  subst h1 h2 h3 h4
  rfl
theorem M4.comm (x y : M4) : M4.pl x y = M4.pl y x := M4.eq (Int.add_comm ..) (Int.add_comm ..) (Int.add_comm ..) (Int.add_comm ..)
theorem M4.assoc (x y z : M4) : M4.pl (M4.pl x y) z = M4.pl x (M4.pl y z) := M4.eq (Int.add_assoc ..) (Int.add_assoc ..) (Int.add_assoc ..) (Int.add_assoc ..)
theorem M4.zero (x : M4) : M4.pl x M4.no = x := M4.eq (Int.add_zero _) (Int.add_zero _) (Int.add_zero _) (Int.add_zero _)
theorem M4.move (x y k : M4) : M4.pl x y = k ↔ y = M4.mi k x := by
  constructor
  · intro h
    subst h
    exact M4.eq (by show _ = x.1 + y.1 - x.1; omega) (by show _ = x.2.1 + y.2.1 - x.2.1; omega) (by show _ = x.2.2.1 + y.2.2.1 - x.2.2.1; omega) (by show _ = x.2.2.2 + y.2.2.2 - x.2.2.2; omega)
  · intro h
    subst h
    exact M4.eq (by show x.1 + (k.1 - x.1) = _; omega) (by show x.2.1 + (k.2.1 - x.2.1) = _; omega) (by show x.2.2.1 + (k.2.2.1 - x.2.2.1) = _; omega) (by show x.2.2.2 + (k.2.2.2 - x.2.2.2) = _; omega)
def sm : FS → M4 → Int
  | [], _ => 0
  | e :: A, k => (if e.1 = k then e.2 else 0) + sm A k
theorem sm_append (A B : FS) (k : M4) : sm (A ++ B) k = sm A k + sm B k := by
  induction A with
  | nil => show sm B k = 0 + sm B k; omega
  | cons e A ih => show _ + sm (A ++ B) k = _ + sm A k + sm B k; rw [ih]; omega
def ng (A : FS) : FS := A.map fun e => (e.1, -e.2)
theorem sm_ng (A : FS) (k : M4) : sm (ng A) k = - sm A k := by
  induction A with
  | nil => rfl
  | cons e A ih =>
    show (if e.1 = k then -e.2 else 0) + sm (ng A) k = -((if e.1 = k then e.2 else 0) + sm A k)
    rw [ih]
    split <;> omega
def rowF (a : M4 × Int) (B : FS) : FS := B.map fun b => (M4.pl a.1 b.1, a.2 * b.2)
def prodF (A B : FS) : FS := A.flatMap fun a => rowF a B
theorem sm_row (a : M4 × Int) (B : FS) (k : M4) : sm (rowF a B) k = a.2 * sm B (M4.mi k a.1) := by
  induction B with
  | nil => show 0 = a.2 * 0; omega
  | cons b B ih =>
    show (if M4.pl a.1 b.1 = k then a.2 * b.2 else 0) + sm (rowF a B) k = a.2 * ((if b.1 = M4.mi k a.1 then b.2 else 0) + sm B (M4.mi k a.1))
    rw [ih, Int.mul_add]
    by_cases h : M4.pl a.1 b.1 = k
    · rw [if_pos h, if_pos ((M4.move ..).mp h)]
    · rw [if_neg h, if_neg fun z => h ((M4.move ..).mpr z), Int.mul_zero]
theorem prod_cons (a : M4 × Int) (A B : FS) : prodF (a :: A) B = rowF a B ++ prodF A B := rfl
theorem sm_prodR {B B' : FS} (h : ∀ k, sm B k = sm B' k) (A : FS) (k : M4) : sm (prodF A B) k = sm (prodF A B') k := by
  induction A with
  | nil => rfl
  | cons a A ih => rw [prod_cons, prod_cons, sm_append, sm_append, ih, sm_row, sm_row, h]
theorem sm_prod_add (A B C : FS) (k : M4) : sm (prodF A (B ++ C)) k = sm (prodF A B) k + sm (prodF A C) k := by
  induction A with
  | nil => rfl
  | cons a A ih =>
    rw [prod_cons, prod_cons, prod_cons, sm_append, sm_append, sm_append, ih, sm_row, sm_row, sm_row, sm_append, Int.mul_add]
    omega
theorem sm_prod_one (B : FS) (a : M4 × Int) (k : M4) : sm (prodF B [a]) k = sm (rowF a B) k := by
  induction B with
  | nil => rfl
  | cons b B ih =>
    rw [prod_cons, sm_append, ih]
    show sm [(M4.pl b.1 a.1, b.2 * a.2)] k + _ = (if M4.pl a.1 b.1 = k then a.2 * b.2 else 0) + sm (rowF a B) k
    rw [M4.comm b.1 a.1, Int.mul_comm b.2 a.2]
    show ((if M4.pl a.1 b.1 = k then a.2 * b.2 else 0) + 0) + _ = _
    rw [Int.add_zero]
theorem sm_comm (A B : FS) (k : M4) : sm (prodF A B) k = sm (prodF B A) k := by
  induction A with
  | nil =>
    have : ∀ B : FS, prodF B [] = [] := by
      intro B
      induction B with
      | nil => rfl
      | cons b B ih => rw [prod_cons, ih]; rfl
    rw [this]
    rfl
  | cons a A ih =>
    rw [prod_cons, sm_append, ih, ← sm_prod_one B a k, show a :: A = [a] ++ A from rfl, sm_prod_add]
theorem sm_prodL {A A' : FS} (h : ∀ k, sm A k = sm A' k) (B : FS) (k : M4) : sm (prodF A B) k = sm (prodF A' B) k := by
  rw [sm_comm, sm_comm A', sm_prodR h]
theorem prod_assoc (A B C : FS) : prodF (prodF A B) C = prodF A (prodF B C) := by
  unfold prodF
  rw [List.flatMap_assoc]
  congr 1
  funext a
  unfold rowF
  rw [List.map_flatMap, List.flatMap_map]
  congr 1
  funext b
  rw [List.map_map]
  apply List.map_congr_left
  intro c _
  show (M4.pl (M4.pl a.1 b.1) c.1, a.2 * b.2 * c.2) = (M4.pl a.1 (M4.pl b.1 c.1), a.2 * (b.2 * c.2))
  rw [M4.assoc, Int.mul_assoc]
instance polS : Setoid FS := ⟨fun A B => ∀ k, sm A k = sm B k, ⟨fun _ _ => rfl, fun h k => (h k).symm, fun h g k => (h k).trans (g k)⟩⟩
def Pol : Type := Quotient polS
def Pol.mk (A : FS) : Pol := Quotient.mk polS A
theorem Pol.sound {A B : FS} (h : ∀ k, sm A k = sm B k) : Pol.mk A = Pol.mk B := Quotient.sound (s := polS) h
theorem Pol.exact {A B : FS} (h : Pol.mk A = Pol.mk B) : ∀ k, sm A k = sm B k := Quotient.exact (s := polS) h
theorem Pol.ind {p : Pol → Prop} (h : ∀ A, p (Pol.mk A)) (x : Pol) : p x := Quotient.ind (s := polS) h x
def Pol.add (x y : Pol) : Pol := Quotient.liftOn₂ (s₁ := polS) (s₂ := polS) x y (fun A B => Pol.mk (A ++ B)) fun A B A' B' h g => Pol.sound fun k => by rw [sm_append, sm_append, h, g]
def Pol.mul (x y : Pol) : Pol := Quotient.liftOn₂ (s₁ := polS) (s₂ := polS) x y (fun A B => Pol.mk (prodF A B)) fun A B A' B' h g => Pol.sound fun k => (sm_prodL h B k).trans (sm_prodR g A' k)
def Pol.neg (x : Pol) : Pol := Quotient.liftOn (s := polS) x (fun A => Pol.mk (ng A)) fun A A' h => Pol.sound fun k => by rw [sm_ng, sm_ng, h]
def Pol.con (c : Int) : Pol := Pol.mk [(M4.no, c)]
def Pol.pow (x : Pol) : Nat → Pol
  | 0 => Pol.con 1
  | n + 1 => Pol.mul (Pol.pow x n) x
instance : Add Pol := ⟨Pol.add⟩
instance : Mul Pol := ⟨Pol.mul⟩
instance : Neg Pol := ⟨Pol.neg⟩
instance : Sub Pol := ⟨fun a b => a + -b⟩
instance : NatCast Pol := ⟨fun n => Pol.con n⟩
instance : IntCast Pol := ⟨Pol.con⟩
instance (n : Nat) : OfNat Pol n := ⟨Pol.con n⟩
instance : SMul Nat Pol := ⟨fun n a => (n : Pol) * a⟩
instance : SMul Int Pol := ⟨fun n a => (n : Pol) * a⟩
instance : HPow Pol Nat Pol := ⟨Pol.pow⟩
theorem con_sm (c : Int) (k : M4) : sm [(M4.no, c)] k = if M4.no = k then c else 0 := by
  show (if M4.no = k then c else 0) + 0 = _
  omega
theorem con0 (k : M4) : (if M4.no = k then ((0 : Nat) : Int) else 0) = 0 := by split <;> rfl
theorem row_no (c : Int) (A : FS) : ∀ k, sm (prodF [(M4.no, c)] A) k = c * sm A k := fun k => by
  rw [prod_cons, sm_append, sm_row]
  have e : M4.mi k M4.no = k := M4.eq (Int.sub_zero _) (Int.sub_zero _) (Int.sub_zero _) (Int.sub_zero _)
  rw [e]
  show c * sm A k + 0 = _
  omega
instance : Lean.Grind.Semiring Pol where
  ofNat := fun n => inferInstance
  nsmul := inferInstance
  npow := inferInstance
  natCast := inferInstance
  add_zero := Pol.ind fun A => Pol.sound fun k => by
    rw [sm_append, con_sm, con0, Int.add_zero]
  add_comm := fun x y => by
    induction x using Pol.ind with
    | h A =>
      induction y using Pol.ind with
      | h B => exact Pol.sound fun k => by rw [sm_append, sm_append]; omega
  add_assoc := fun x y z => by
    induction x using Pol.ind with
    | h A =>
      induction y using Pol.ind with
      | h B =>
        induction z using Pol.ind with
        | h C => exact Pol.sound fun k => by rw [List.append_assoc]
  mul_assoc := fun x y z => by
    induction x using Pol.ind with
    | h A =>
      induction y using Pol.ind with
      | h B =>
        induction z using Pol.ind with
        | h C => exact Pol.sound fun k => by rw [prod_assoc]
  mul_one := Pol.ind fun A => Pol.sound fun k => by
    rw [sm_comm, row_no]
    show 1 * sm A k = _
    omega
  one_mul := Pol.ind fun A => Pol.sound fun k => by
    rw [row_no]
    show 1 * sm A k = _
    omega
  left_distrib := fun x y z => by
    induction x using Pol.ind with
    | h A =>
      induction y using Pol.ind with
      | h B =>
        induction z using Pol.ind with
        | h C => exact Pol.sound fun k => by rw [sm_prod_add, sm_append]
  right_distrib := fun x y z => by
    induction x using Pol.ind with
    | h A =>
      induction y using Pol.ind with
      | h B =>
        induction z using Pol.ind with
        | h C => exact Pol.sound fun k => by rw [sm_append, sm_comm, sm_prod_add, sm_comm C A, sm_comm C B]
  zero_mul := Pol.ind fun A => Pol.sound fun k => by
    rw [row_no, con_sm, con0]
    show 0 * sm A k = 0
    rw [Int.zero_mul]
  mul_zero := Pol.ind fun A => Pol.sound fun k => by
    rw [sm_comm, row_no, con_sm, con0]
    show 0 * sm A k = 0
    rw [Int.zero_mul]
  pow_zero := fun a => rfl
  pow_succ := fun a n => rfl
  ofNat_succ := fun a => Pol.sound fun k => by
    rw [sm_append, con_sm, con_sm, con_sm]
    show _ = _ + (if M4.no = k then ((1 : Nat) : Int) else 0)
    split <;> simp
instance : Lean.Grind.Ring Pol where
  zsmul := inferInstance
  intCast := inferInstance
  neg_add_cancel := Pol.ind fun A => Pol.sound fun k => by
    rw [sm_append, sm_ng, con_sm, con0]
    omega
  sub_eq_add_neg := fun _ _ => rfl
  neg_zsmul := fun i => Pol.ind fun A => Pol.sound fun k => by
    rw [row_no, sm_ng, row_no, Int.neg_mul]
  intCast_neg := fun i => Pol.sound fun k => by
    rw [con_sm, sm_ng, con_sm]
    split <;> omega
instance : Lean.Grind.CommRing Pol where
  mul_comm := fun x y => by
    induction x using Pol.ind with
    | h A =>
      induction y using Pol.ind with
      | h B => exact Pol.sound (sm_comm A B)
example (a b c d s : Pol) (h : a = b * c + d) : s * a = (s * b - c) * c + (s * d + c * c) := by grind
end Lw
set_option Elab.async false
set_option linter.all false
set_option maxRecDepth 100000
set_option maxHeartbeats 1000000
/-! Tables and the ring. -/
namespace Lw
open BX
def N4 (A : PT) : Prop := ∀ e ∈ A, e.1.length = 4
def nm (k : List Int) : M4 := (k.getD 0 0, k.getD 1 0, k.getD 2 0, k.getD 3 0)
def kx (x : M4) : List Int := [x.1, x.2.1, x.2.2.1, x.2.2.2]
theorem nm_kx (x : M4) : nm (kx x) = x := rfl
theorem kx_nm {k : List Int} (h : k.length = 4) : kx (nm k) = k := by
  match k, h with
  | [a, b, c, d], _ => rfl
theorem nm_eq {k : List Int} {x : M4} (h : k.length = 4) : nm k = x ↔ k = kx x := by
  constructor
  · intro e; rw [← e, kx_nm h]
  · intro e; rw [e, nm_kx]
theorem nm_add (a b : List Int) : nm (add4 a b) = M4.pl (nm a) (nm b) := rfl
def toF (A : PT) : FS := A.map fun e => (nm e.1, e.2)
def pol (A : PT) : Pol := Pol.mk (toF A)
def mon (k : List Int) (c : Int) : Pol := Pol.mk [(nm k, c)]
structure Tb (A : PT) : Prop where
  nd : (A.map (·.1)).Nodup
  n4 : N4 A
theorem sm_cf {A : PT} (h : Tb A) (x : M4) : sm (toF A) x = cf A (kx x) := by
  obtain ⟨nd, n4⟩ := h
  induction A with
  | nil => rfl
  | cons e A ih =>
    rw [List.map_cons, List.nodup_cons] at nd
    have ih := ih nd.2 fun d hd => n4 d (List.mem_cons_of_mem _ hd)
    show (if nm e.1 = x then e.2 else 0) + sm (toF A) x = (getM (e :: A) (kx x)).getD 0
    rw [ih, getM_cons]
    have h4 := n4 e (List.mem_cons_self ..)
    by_cases c : e.1 = kx x
    · rw [if_pos c, if_pos ((nm_eq h4).mpr c), cf_none (by rw [← c]; exact nd.1)]
      show e.2 + 0 = e.2
      omega
    · rw [if_neg c, if_neg fun z => c ((nm_eq h4).mp z)]
      show 0 + cf A (kx x) = cf A (kx x)
      omega
theorem Tb.nil : Tb [] := ⟨List.nodup_nil, fun _ h => by cases h⟩
theorem Tb.put {m : PT} (h : Tb m) {k : List Int} (hk : k.length = 4) (a : Int) : Tb (putM m k a) := by
  refine ⟨putM_nodup' h.nd, ?_⟩
  have n4 := h.n4
  unfold putM
  split
  · intro e he
    obtain ⟨e', he', rfl⟩ := List.mem_map.mp he
    split <;> exact n4 e' he'
  · intro e he
    rcases List.mem_append.mp he with he | he
    · exact n4 e he
    · rw [List.mem_singleton.mp he]; exact hk
theorem pol_put {m : PT} (h : Tb m) {k : List Int} (hk : k.length = 4) (c : Int) : pol (putA m k c) = pol m + mon k c := Pol.sound fun x => by
  rw [sm_append, sm_cf (show Tb (putA m k c) from h.put hk _), sm_cf h]
  show cf (putA m k c) (kx x) = _
  rw [cf_putA]
  show _ = _ + ((if nm k = x then c else 0) + 0)
  by_cases e : kx x = k
  · rw [if_pos e, if_pos ((nm_eq hk).mpr e.symm)]; omega
  · rw [if_neg e, if_neg fun z => e ((nm_eq hk).mp z).symm]; omega
theorem Tb.can {A : PT} (h : Can A) (g : N4 A) : Tb A := ⟨h.nd, g⟩
theorem Tb.canon {m : PT} (h : Tb m) : Tb (BX.canon m) := ⟨(can_canon h.nd).nd, fun e he => by
  obtain ⟨h1, _⟩ := mem_canon.mp (show (e.1, e.2) ∈ BX.canon m from he)
  obtain ⟨d, hd, e1⟩ := List.mem_map.mp h1
  rw [← e1]
  exact h.n4 d hd⟩
theorem pol_canon {m : PT} (h : Tb m) : pol (canon m) = pol m := Pol.sound fun x => by
  rw [sm_cf h.canon, sm_cf h, cf_canon h.nd]
/-- the table is told by its polynomial -/
theorem can_pol {A B : PT} (hA : Can A) (gA : N4 A) (hB : Can B) (gB : N4 B) (h : pol A = pol B) : A = B := can_ext hA hB fun k => by
  by_cases hk : k.length = 4
  · have := Pol.exact h (nm k)
    rw [sm_cf (.can hA gA), sm_cf (.can hB gB), kx_nm hk] at this
    exact this
  · have : ∀ {A : PT}, N4 A → cf A k = 0 := fun {A} g => cf_none fun m => by
      obtain ⟨e, he, rfl⟩ := List.mem_map.mp m
      exact hk (g e he)
    rw [this gA, this gB]
theorem foldM_tb {A : PT} (h : Tb A) : foldM A = A := by
  have gen : ∀ (A acc : PT), ((acc ++ A).map (·.1)).Nodup → A.foldl (fun acc e => putM acc e.1 e.2) acc = acc ++ A := by
    intro A
    induction A with
    | nil => intro acc _; rw [List.append_nil]; rfl
    | cons e A ih =>
      intro acc nd
      have hn : getM acc e.1 = none := getM_none.mpr fun m => by
        rw [List.map_append, List.map_cons, List.nodup_append] at nd
        exact nd.2.2 e.1 m e.1 (List.mem_cons_self ..) rfl
      show A.foldl _ (putM acc e.1 e.2) = _
      have : putM acc e.1 e.2 = acc ++ [e] := by
        unfold putM
        rw [hn]
        rfl
      rw [this, ih (acc ++ [e]) (by rw [List.append_assoc]; exact nd), List.append_assoc]
      rfl
  have := gen A [] (by simpa using h.nd)
  unfold foldM
  rw [this]
  rfl
theorem sumP_tb {A B : PT} (hA : Tb A) (hB : N4 B) (s : Int) : Tb (sumP A B s) ∧ pol (sumP A B s) = pol A + Pol.con s * pol B := by
  unfold sumP
  rw [foldM_tb hA]
  have gen : ∀ (B m : PT), N4 B → Tb m → Tb (B.foldl (fun m t => putA m t.1 (s * t.2)) m) ∧ pol (B.foldl (fun m t => putA m t.1 (s * t.2)) m) = pol m + Pol.con s * pol B := by
    intro B
    induction B with
    | nil =>
      intro m _ h
      refine ⟨h, ?_⟩
      show pol m = pol m + Pol.con s * Pol.mk []
      have : (Pol.mk [] : Pol) = 0 := Pol.sound fun k => by rw [con_sm, con0]; rfl
      rw [this]
      grind
    | cons b B ih =>
      intro m g h
      have hb := g b (List.mem_cons_self ..)
      obtain ⟨i1, i2⟩ := ih (putA m b.1 (s * b.2)) (fun e he => g e (List.mem_cons_of_mem _ he)) (h.put hb _)
      refine ⟨i1, ?_⟩
      show pol (B.foldl _ (putA m b.1 (s * b.2))) = _
      rw [i2, pol_put h hb]
      have e1 : pol (b :: B) = mon b.1 b.2 + pol B := rfl
      have e2 : mon b.1 (s * b.2) = Pol.con s * mon b.1 b.2 := Pol.sound fun k => by
        rw [row_no]
        show (if _ then _ else _) + 0 = s * ((if _ then _ else _) + 0)
        split
        · show s * b.2 + 0 = s * (b.2 + 0)
          rw [Int.add_zero, Int.add_zero]
        · rw [Int.add_zero, Int.mul_zero]
      rw [e1, e2]
      grind
  exact gen B A hB hA
theorem mulP_tb {A B : PT} (hA : N4 A) (hB : N4 B) : Tb (mulP A B) ∧ pol (mulP A B) = pol A * pol B := by
  have row : ∀ (a : List Int × Int) (B m : PT), Tb m → Tb (mulRow a B m) ∧ pol (mulRow a B m) = pol m + mon a.1 a.2 * pol B := by
    intro a B
    induction B with
    | nil =>
      intro m h
      refine ⟨h, ?_⟩
      show pol m = pol m + mon a.1 a.2 * Pol.mk []
      have : (Pol.mk [] : Pol) = 0 := Pol.sound fun k => by rw [con_sm, con0]; rfl
      rw [this]
      grind
    | cons b B ih =>
      intro m h
      have h4 : (add4 a.1 b.1).length = 4 := rfl
      obtain ⟨i1, i2⟩ := ih (putA m (add4 a.1 b.1) (a.2 * b.2)) (h.put h4 _)
      refine ⟨i1, ?_⟩
      show pol (mulRow a B (putA m (add4 a.1 b.1) (a.2 * b.2))) = _
      rw [i2, pol_put h h4]
      have e1 : pol (b :: B) = mon b.1 b.2 + pol B := rfl
      have e2 : mon (add4 a.1 b.1) (a.2 * b.2) = mon a.1 a.2 * mon b.1 b.2 := rfl
      rw [e1, e2]
      grind
  have gen : ∀ (A m : PT), Tb m → Tb (A.foldl (fun m a => mulRow a B m) m) ∧ pol (A.foldl (fun m a => mulRow a B m) m) = pol m + pol A * pol B := by
    intro A
    induction A with
    | nil =>
      intro m h
      refine ⟨h, ?_⟩
      show pol m = pol m + Pol.mk [] * pol B
      have : (Pol.mk [] : Pol) = 0 := Pol.sound fun k => by rw [con_sm, con0]; rfl
      rw [this]
      grind
    | cons a A ih =>
      intro m h
      obtain ⟨r1, r2⟩ := row a B m h
      obtain ⟨i1, i2⟩ := ih (mulRow a B m) r1
      refine ⟨i1, ?_⟩
      show pol (A.foldl _ (mulRow a B m)) = _
      rw [i2, r2]
      have e1 : pol (a :: A) = mon a.1 a.2 + pol A := rfl
      rw [e1]
      grind
  obtain ⟨g1, g2⟩ := gen A [] Tb.nil
  refine ⟨g1, ?_⟩
  have e0 : pol ([] : PT) = 0 := Pol.sound fun k => by rw [con_sm, con0]; rfl
  show pol (A.foldl _ []) = _
  rw [g2, e0]
  grind
end Lw
set_option Elab.async false
set_option linter.all false
set_option maxRecDepth 100000
set_option maxHeartbeats 1000000
/-! Bounds of tables: boxes of powers, sums of counts. -/
namespace Lw
open BX
def Bx (b : B4) (A : PT) : Prop := ∀ e ∈ A, In b e.1
structure B4.le (x y : B4) : Prop where
  pa : x.a ≤ y.a
  pb : x.b ≤ y.b
  pc : x.c ≤ y.c
  pd : x.d ≤ y.d
theorem perm_sum {l l' : List Nat} (h : l.Perm l') : l.sum = l'.sum := by
  induction h with
  | nil => rfl
  | cons x _ ih => rw [List.sum_cons, List.sum_cons, ih]
  | swap x y l => simp only [List.sum_cons]; omega
  | trans _ _ i1 i2 => exact i1.trans i2
theorem In.mono {b c : B4} (h : b.le c) {k : List Int} (g : In b k) : In c k := by
  obtain ⟨x, y, z, u, e, h1, h2, h3, h4⟩ := g
  exact ⟨x, y, z, u, e, Nat.le_trans h1 h.pa, Nat.le_trans h2 h.pb, Nat.le_trans h3 h.pc, Nat.le_trans h4 h.pd⟩
theorem Bx.mono {b c : B4} (h : b.le c) {A : PT} (g : Bx b A) : Bx c A := fun e he => (g e he).mono h
theorem Bx.n4 {b : B4} {A : PT} (h : Bx b A) : N4 A := fun e he => (h e he).len
theorem Bx.canon {b : B4} {A : PT} (h : Bx b A) : Bx b (BX.canon A) := fun e he => by
  obtain ⟨h1, _⟩ := mem_canon.mp (show (e.1, e.2) ∈ BX.canon A from he)
  obtain ⟨d, hd, e1⟩ := List.mem_map.mp h1
  rw [← e1]
  exact h d hd
theorem put_key {p : List Int → Prop} {m : PT} (h : ∀ e ∈ m, p e.1) {k : List Int} (hk : p k) (a : Int) : ∀ e ∈ putM m k a, p e.1 := by
  unfold putM
  split
  · intro e he
    obtain ⟨e', he', rfl⟩ := List.mem_map.mp he
    split <;> exact h e' he'
  · intro e he
    rcases List.mem_append.mp he with he | he
    · exact h e he
    · rw [List.mem_singleton.mp he]; exact hk
theorem fold_key {α : Type} {p : List Int → Prop} (L : List α) (f : PT → α → PT) (hf : ∀ m x, x ∈ L → (∀ e ∈ m, p e.1) → ∀ e ∈ f m x, p e.1) : ∀ m : PT, (∀ e ∈ m, p e.1) → ∀ e ∈ L.foldl f m, p e.1 := by
  induction L with
  | nil => intro m h; exact h
  | cons x L ih => exact fun m h => ih (fun m y hy => hf m y (List.mem_cons_of_mem _ hy)) (f m x) (hf m x (List.mem_cons_self ..) h)
theorem Bx.sumP {b : B4} {A B : PT} (hA : Bx b A) (hB : Bx b B) (s : Int) : Bx b (BX.sumP A B s) :=
  fold_key (p := In b) B (fun m t => putA m t.1 (s * t.2)) (fun m x hx hm => put_key hm (hB x hx) _) _ (fold_key (p := In b) A (fun acc e => putM acc e.1 e.2) (fun m x hx hm => put_key hm (hA x hx) _) [] fun _ h => by cases h)
theorem Bx.mulP {b c : B4} {A B : PT} (hA : Bx b A) (hB : Bx c B) : Bx (b.add c) (BX.mulP A B) :=
  fold_key (p := In (b.add c)) A (fun m a => mulRow a B m) (fun m a ha hm => fold_key (p := In (b.add c)) B (fun m x => putA m (add4 a.1 x.1) (a.2 * x.2)) (fun m x hx hm => put_key hm ((hA a ha).add (hB x hx)) _) m hm) [] fun _ h => by cases h
/-- the sum of the counts' sizes -/
def l1 (A : PT) : Nat := (A.map fun e => e.2.natAbs).sum
theorem l1_cons (e : List Int × Int) (A : PT) : l1 (e :: A) = e.2.natAbs + l1 A := by unfold l1; simp
theorem l1_mem {A : PT} {e : List Int × Int} (h : e ∈ A) : e.2.natAbs ≤ l1 A := by
  induction A with
  | nil => cases h
  | cons d A ih =>
    rw [l1_cons]
    rcases List.mem_cons.mp h with h | h
    · rw [h]; omega
    · have := ih h; omega
theorem l1_append (A B : PT) : l1 (A ++ B) = l1 A + l1 B := by
  induction A with
  | nil => show l1 B = 0 + l1 B; omega
  | cons e A ih => rw [List.cons_append, l1_cons, l1_cons, ih]; omega
theorem l1_put {m : PT} (nd : (m.map (·.1)).Nodup) (k : List Int) (c : Int) : l1 (putA m k c) ≤ l1 m + c.natAbs := by
  unfold putA putM
  split
  · rename_i h
    have gen : ∀ m : PT, (m.map (·.1)).Nodup → ∀ a : Int, (getM m k).isSome = true → l1 (m.map fun e => if e.1 = k then (e.1, a) else e) + (cf m k).natAbs = l1 m + a.natAbs := by
      intro m
      induction m with
      | nil => intro _ a h; cases h
      | cons e m ih =>
        intro nd a h
        rw [List.map_cons, List.nodup_cons] at nd
        rw [List.map_cons, l1_cons, l1_cons]
        unfold cf
        rw [getM_cons] at h ⊢
        by_cases q : e.1 = k
        · rw [if_pos q, if_pos q]
          have e1 : (m.map fun e => if e.1 = k then (e.1, a) else e) = m := by
            have : ∀ d ∈ m, (if d.1 = k then (d.1, a) else d) = d := fun d hd => by
              rw [if_neg]
              intro z
              exact nd.1 (by rw [q, ← z]; exact List.mem_map_of_mem hd)
            exact (List.map_congr_left this).trans (List.map_id _)
          rw [e1]
          show a.natAbs + l1 m + e.2.natAbs = _
          omega
        · rw [if_neg q, if_neg q]
          rw [if_neg q] at h
          have := ih nd.2 a h
          unfold cf at this
          omega
    have := gen m nd (cf m k + c) h
    have t := Int.natAbs_add_le (cf m k) c
    omega
  · rename_i h
    rw [l1_append, l1_cons]
    have : cf m k = 0 := by
      unfold cf
      cases q : getM m k with
      | none => rfl
      | some x => rw [q] at h; exact absurd rfl h
    rw [this]
    show l1 m + ((0 + c).natAbs + 0) ≤ _
    rw [Int.zero_add]
    omega
theorem l1_sumP {A B : PT} (hA : Tb A) (hB : N4 B) {s : Int} (hs : s.natAbs ≤ 1) : l1 (BX.sumP A B s) ≤ l1 A + l1 B := by
  unfold BX.sumP
  rw [foldM_tb hA]
  have gen : ∀ (B m : PT), N4 B → Tb m → l1 (B.foldl (fun m t => putA m t.1 (s * t.2)) m) ≤ l1 m + l1 B := by
    intro B
    induction B with
    | nil => intro m _ h; exact Nat.le_refl _
    | cons b B ih =>
      intro m g h
      have i := ih (putA m b.1 (s * b.2)) (fun e he => g e (List.mem_cons_of_mem _ he)) (h.put (g b (List.mem_cons_self ..)) _)
      have p := l1_put h.nd b.1 (s * b.2)
      rw [l1_cons]
      have : (s * b.2).natAbs ≤ b.2.natAbs := by
        rw [Int.natAbs_mul]
        have := Nat.mul_le_mul_right b.2.natAbs hs
        omega
      show l1 (B.foldl _ (putA m b.1 (s * b.2))) ≤ _
      omega
  exact gen B A hB hA
theorem l1_mulP {A B : PT} : l1 (BX.mulP A B) ≤ l1 A * l1 B := by
  have row : ∀ (a : List Int × Int) (B m : PT), Tb m → Tb (mulRow a B m) ∧ l1 (mulRow a B m) ≤ l1 m + a.2.natAbs * l1 B := by
    intro a B
    induction B with
    | nil => intro m h; exact ⟨h, Nat.le_add_right _ _⟩
    | cons b B ih =>
      intro m h
      obtain ⟨i1, i2⟩ := ih (putA m (add4 a.1 b.1) (a.2 * b.2)) (h.put rfl _)
      refine ⟨i1, ?_⟩
      have p := l1_put h.nd (add4 a.1 b.1) (a.2 * b.2)
      rw [Int.natAbs_mul] at p
      rw [l1_cons, Nat.mul_add]
      show l1 (mulRow a B (putA m (add4 a.1 b.1) (a.2 * b.2))) ≤ _
      omega
  have gen : ∀ (A m : PT), Tb m → l1 (A.foldl (fun m a => mulRow a B m) m) ≤ l1 m + l1 A * l1 B := by
    intro A
    induction A with
    | nil => intro m h; exact Nat.le_add_right _ _
    | cons a A ih =>
      intro m h
      obtain ⟨r1, r2⟩ := row a B m h
      have i := ih (mulRow a B m) r1
      rw [l1_cons, Nat.add_mul]
      show l1 (A.foldl _ (mulRow a B m)) ≤ _
      omega
  have := gen A [] Tb.nil
  show l1 (A.foldl _ []) ≤ _
  have e : l1 ([] : PT) = 0 := rfl
  omega
theorem l1_canon {m : PT} (nd : (m.map (·.1)).Nodup) : l1 (BX.canon m) ≤ l1 m := by
  have e1 : ∀ ks : List (List Int), l1 (ks.filterMap (canonF m)) = (ks.map fun k => (cf m k).natAbs).sum := by
    intro ks
    induction ks with
    | nil => rfl
    | cons k ks ih =>
      rw [List.filterMap_cons, List.map_cons, List.sum_cons]
      unfold canonF
      by_cases h : cf m k = 0
      · rw [if_pos h, h]
        show l1 _ = 0 + _
        rw [Nat.zero_add]
        exact ih
      · rw [if_neg h]
        show l1 ((k, cf m k) :: _) = _
        rw [l1_cons]
        exact congrArg (_ + ·) ih
  have e2 : ((m.map (·.1)).map fun k => (cf m k).natAbs) = m.map fun e => e.2.natAbs := by
    rw [List.map_map]
    apply List.map_congr_left
    intro e he
    show (cf m e.1).natAbs = e.2.natAbs
    rw [cf_mem nd (show (e.1, e.2) ∈ m from he)]
  unfold BX.canon
  rw [e1]
  have p : (((m.map (·.1)).mergeSort keyLe).map fun k => (cf m k).natAbs).Perm ((m.map (·.1)).map fun k => (cf m k).natAbs) := (List.mergeSort_perm _ _).map _
  rw [perm_sum p, e2]
  exact Nat.le_refl _
/-- a canonical table in a box with small counts -/
structure PB (b : B4) (n : Nat) (A : PT) : Prop where
  can : Can A
  bx : Bx b A
  l : l1 A ≤ n
theorem PB.tb {b : B4} {n : Nat} {A : PT} (h : PB b n A) : Tb A := ⟨h.can.nd, h.bx.n4⟩
theorem PB.len {b : B4} {n : Nat} {A : PT} (h : PB b n A) : A.length ≤ b.vol := by
  have := box_few (B := b) h.can.nd fun k hk => by
    obtain ⟨e, he, rfl⟩ := List.mem_map.mp hk
    exact h.bx e he
  rw [List.length_map] at this
  exact this
theorem PB.mono {b c : B4} {n m : Nat} {A : PT} (h : PB b n A) (hb : b.le c) (hn : n ≤ m) : PB c m A := ⟨h.can, h.bx.mono hb, Nat.le_trans h.l hn⟩
theorem PB.sum {b : B4} {n m : Nat} {A B : PT} (hA : PB b n A) (hB : PB b m B) {s : Int} (hs : s.natAbs ≤ 1) : PB b (n + m) (BX.canon (BX.sumP A B s)) ∧ pol (BX.canon (BX.sumP A B s)) = pol A + Pol.con s * pol B := by
  obtain ⟨t, p⟩ := sumP_tb hA.tb hB.bx.n4 s
  refine ⟨⟨can_canon t.nd, (hA.bx.sumP hB.bx s).canon, ?_⟩, by rw [pol_canon t, p]⟩
  have h1 := l1_canon t.nd
  have h2 := l1_sumP hA.tb hB.bx.n4 hs
  have := hA.l
  have := hB.l
  omega
theorem PB.mul {b c : B4} {n m : Nat} {A B : PT} (hA : PB b n A) (hB : PB c m B) : PB (b.add c) (n * m) (BX.canon (BX.mulP A B)) ∧ pol (BX.canon (BX.mulP A B)) = pol A * pol B := by
  obtain ⟨t, p⟩ := mulP_tb hA.bx.n4 hB.bx.n4
  refine ⟨⟨can_canon t.nd, (hA.bx.mulP hB.bx).canon, ?_⟩, by rw [pol_canon t, p]⟩
  have h1 := l1_canon t.nd
  have h2 := l1_mulP (A := A) (B := B)
  have h3 := Nat.mul_le_mul hA.l hB.l
  omega
theorem PB.one : PB ⟨0, 0, 0, 0⟩ 1 [([0, 0, 0, 0], 1)] := ⟨⟨List.pairwise_singleton _ _, fun e he => by rw [List.mem_singleton.mp he]; decide⟩, fun e he => by rw [List.mem_singleton.mp he]; exact ⟨0, 0, 0, 0, rfl, by decide, by decide, by decide, by decide⟩, by decide⟩
end Lw
set_option Elab.async false
set_option linter.all false
set_option maxRecDepth 100000
set_option maxHeartbeats 1000000
/-! Powers of tables. -/
namespace Lw
open BX
def tm (A B : PT) : PT := canon (mulP A B)
def one4 : PT := [([0, 0, 0, 0], 1)]
def pwL : Nat → PT → PT → Nat → PT
  | 0, f, _, _ => f
  | g + 1, f, p, n => if n = 0 then f else pwL g (if n % 2 = 1 then tm f p else f) (if 1 < n then tm p p else p) (n / 2)
theorem pwL_fuel : ∀ (g h : Nat) (f p : PT) (n : Nat), n ≤ g → n ≤ h → pwL g f p n = pwL h f p n
  | 0, 0, _, _, _, _, _ => rfl
  | 0, h + 1, f, p, n, hg, _ => by
    have : n = 0 := by omega
    subst this
    rfl
  | g + 1, 0, f, p, n, _, hh => by
    have : n = 0 := by omega
    subst this
    rfl
  | g + 1, h + 1, f, p, n, hg, hh => by
    unfold pwL
    by_cases c : n = 0
    · rw [if_pos c, if_pos c]
    · rw [if_neg c, if_neg c]
      exact pwL_fuel g h _ _ (n / 2) (by omega) (by omega)
theorem pwL_step {f p : PT} {n : Nat} (h : 0 < n) : pwL n f p n = pwL (n / 2) (if n % 2 = 1 then tm f p else f) (if 1 < n then tm p p else p) (n / 2) := by
  cases n with
  | zero => omega
  | succ m =>
    rw [show pwL (m + 1) f p (m + 1) = pwL m (if (m + 1) % 2 = 1 then tm f p else f) (if 1 < m + 1 then tm p p else p) ((m + 1) / 2) from by
      conv => lhs; unfold pwL
      rw [if_neg (by omega)]]
    exact pwL_fuel m ((m + 1) / 2) _ _ _ (by omega) (by omega)
theorem mul_le {i j N : Nat} {b : B4} (h : i + j ≤ N) : ((B4.mul i b).add (B4.mul j b)).le (B4.mul N b) := by
  refine ⟨?_, ?_, ?_, ?_⟩ <;> (show i * _ + j * _ ≤ N * _; rw [← Nat.add_mul]; exact Nat.mul_le_mul_right _ h)
theorem mul_le1 {i N : Nat} {b : B4} (h : i ≤ N) : (B4.mul i b).le (B4.mul N b) := ⟨Nat.mul_le_mul_right _ h, Nat.mul_le_mul_right _ h, Nat.mul_le_mul_right _ h, Nat.mul_le_mul_right _ h⟩
theorem B4.le.refl (b : B4) : b.le b := ⟨Nat.le_refl _, Nat.le_refl _, Nat.le_refl _, Nat.le_refl _⟩
theorem B4.le.trans {a b c : B4} (h : a.le b) (g : b.le c) : a.le c := ⟨Nat.le_trans h.pa g.pa, Nat.le_trans h.pb g.pb, Nat.le_trans h.pc g.pc, Nat.le_trans h.pd g.pd⟩
theorem vol_mono {b c : B4} (h : b.le c) : b.vol ≤ c.vol := Nat.mul_le_mul (Nat.mul_le_mul (Nat.mul_le_mul (Nat.succ_le_succ h.pa) (Nat.succ_le_succ h.pb)) (Nat.succ_le_succ h.pc)) (Nat.succ_le_succ h.pd)
/-- f has at most i factors, p at most j -/
structure PwI (b : B4) (L N i j n : Nat) (f p : PT) : Prop where
  f : PB (B4.mul i b) (L ^ i) f
  p : PB (B4.mul j b) (L ^ j) p
  h : i + j * n ≤ N
  j0 : 0 < j
theorem PwI.mulF {b : B4} {L N i j n : Nat} {f p : PT} (h : PwI b L N i j n f p) (hn : 0 < n) : PB (B4.mul (i + j) b) (L ^ (i + j)) (tm f p) := by
  have := (h.f.mul h.p).1
  refine this.mono (mul_le (Nat.le_refl _)) ?_
  rw [Nat.pow_add]
  exact Nat.le_refl _
theorem PwI.sq {b : B4} {L N i j n : Nat} {f p : PT} (h : PwI b L N i j n f p) : PB (B4.mul (j + j) b) (L ^ (j + j)) (tm p p) := by
  have := (h.p.mul h.p).1
  refine this.mono (mul_le (Nat.le_refl _)) ?_
  rw [Nat.pow_add]
  exact Nat.le_refl _
theorem PwI.step {b : B4} {L N i j n : Nat} {f p : PT} (hL : 0 < L) (h : PwI b L N i j n f p) (hn : 0 < n) : ∃ i' j', PwI b L N i' j' (n / 2) (if n % 2 = 1 then tm f p else f) (if 1 < n then tm p p else p) := by
  have hh := h.h
  by_cases c : n % 2 = 1
  · by_cases d : 1 < n
    · refine ⟨i + j, j + j, by rw [if_pos c]; exact h.mulF hn, by rw [if_pos d]; exact h.sq, ?_, by have := h.j0; omega⟩
      have e : n = 2 * (n / 2) + 1 := by omega
      have : (j + j) * (n / 2) = j * (2 * (n / 2)) := by rw [← Nat.two_mul, Nat.mul_comm 2 j, Nat.mul_assoc]
      have e2 : j * n = j * (2 * (n / 2)) + j := by rw [← Nat.mul_succ]; exact congrArg (j * ·) e
      omega
    · refine ⟨i + j, j, by rw [if_pos c]; exact h.mulF hn, by rw [if_neg d]; exact h.p, ?_, h.j0⟩
      have e : n = 1 := by omega
      subst e
      simp at hh ⊢
      omega
  · by_cases d : 1 < n
    · refine ⟨i, j + j, by rw [if_neg c]; exact h.f, by rw [if_pos d]; exact h.sq, ?_, by have := h.j0; omega⟩
      have e : n = 2 * (n / 2) := by omega
      have : (j + j) * (n / 2) = j * (2 * (n / 2)) := by rw [← Nat.two_mul, Nat.mul_comm 2 j, Nat.mul_assoc]
      have e2 : j * n = j * (2 * (n / 2)) := congrArg (j * ·) e
      omega
    · omega
theorem pol_one : pol one4 = 1 := rfl
theorem pow_mul (x : Pol) (n : Nat) : (x * x) ^ n = x ^ (2 * n) := by
  induction n with
  | zero => rfl
  | succ n ih =>
    rw [show 2 * (n + 1) = 2 * n + 1 + 1 from rfl]
    show (x * x) ^ n * (x * x) = x ^ (2 * n) * x * x
    rw [ih]
    grind
theorem pwL_ok {b : B4} {L N : Nat} (hL : 0 < L) : ∀ (n : Nat) (f p : PT) (i j : Nat), PwI b L N i j n f p → PB (B4.mul N b) (L ^ N) (pwL n f p n) ∧ pol (pwL n f p n) = pol f * pol p ^ n := by
  intro n
  induction n using Nat.strongRecOn with
  | _ n ih =>
    intro f p i j h
    by_cases c : n = 0
    · subst c
      refine ⟨h.f.mono (mul_le1 (by have := h.h; omega)) (Nat.pow_le_pow_right hL (by have := h.h; omega)), ?_⟩
      show pol f = pol f * 1
      grind
    · have hn : 0 < n := by omega
      obtain ⟨i', j', h'⟩ := h.step hL hn
      obtain ⟨q1, q2⟩ := ih (n / 2) (by omega) _ _ i' j' h'
      rw [pwL_step hn]
      refine ⟨q1, q2.trans ?_⟩
      have e1 : pol (tm f p) = pol f * pol p := (h.f.mul h.p).2
      have e2 : pol (tm p p) = pol p * pol p := (h.p.mul h.p).2
      by_cases d : 1 < n
      · rw [if_pos d, e2, pow_mul]
        by_cases c2 : n % 2 = 1
        · rw [if_pos c2, e1]
          have : n = 2 * (n / 2) + 1 := by omega
          conv => rhs; rw [this]
          show _ = _ * (pol p ^ (2 * (n / 2)) * pol p)
          grind
        · rw [if_neg c2]
          have : n = 2 * (n / 2) := by omega
          conv => rhs; rw [this]
      · have e : n = 1 := by omega
        subst e
        rw [if_neg d, if_pos (by decide), e1]
        show pol f * pol p * 1 = pol f * (1 * pol p)
        grind
theorem pw0 {b : B4} {L n : Nat} {B : PT} (h : PB b L B) (hL : 0 < L) : PwI b L n 0 1 n one4 B := ⟨PB.one.mono ⟨Nat.zero_le _, Nat.zero_le _, Nat.zero_le _, Nat.zero_le _⟩ (Nat.le_refl _), h.mono (by refine ⟨?_, ?_, ?_, ?_⟩ <;> (show _ ≤ 1 * _; omega)) (by rw [Nat.pow_one]; exact Nat.le_refl _), by omega, by decide⟩
end Lw
set_option Elab.async false
set_option linter.all false
set_option maxRecDepth 100000
set_option maxHeartbeats 1000000
namespace Lw
open PySem PySem.Spec PyProof.Rows L2 BX
/-! tables of the law: in any order, no count 0 -/
theorem nz_perm (m : PT) : (nz m).Perm (canon m) := by
  unfold nz canon
  exact ((List.mergeSort_perm _ _).filterMap _).symm
theorem cf_perm {A B : PT} (nA : (A.map (·.1)).Nodup) (p : A.Perm B) (k : List Int) : cf A k = cf B k := by
  have nB : (B.map (·.1)).Nodup := (p.map _).nodup_iff.mp nA
  by_cases h : k ∈ A.map (·.1)
  · obtain ⟨e, he, rfl⟩ := List.mem_map.mp h
    rw [cf_mem nA (c := e.2) he, cf_mem nB (c := e.2) (p.mem_iff.mp he)]
  · have h' : k ∉ B.map (·.1) := fun z => h ((p.map _).mem_iff.mpr z)
    rw [cf_none h, cf_none h']
theorem l1_perm {A B : PT} (p : A.Perm B) : l1 A = l1 B := perm_sum (p.map _)
/-- what is known of a table of the law -/
structure LB (b : B4) (n : Nat) (A : PT) : Prop where
  nd : (A.map (·.1)).Nodup
  nz : ∀ e ∈ A, e.2 ≠ 0
  bx : Bx b A
  l : l1 A ≤ n
theorem LB.tb {b : B4} {n : Nat} {A : PT} (h : LB b n A) : Tb A := ⟨h.nd, h.bx.n4⟩
theorem LB.len {b : B4} {n : Nat} {A : PT} (h : LB b n A) : A.length ≤ b.vol := by
  have := box_few (B := b) h.nd fun k hk => by
    obtain ⟨e, he, rfl⟩ := List.mem_map.mp hk
    exact h.bx e he
  rw [List.length_map] at this
  exact this
theorem LB.mono {b c : B4} {n m : Nat} {A : PT} (h : LB b n A) (hb : b.le c) (hn : n ≤ m) : LB c m A := ⟨h.nd, h.nz, h.bx.mono hb, Nat.le_trans h.l hn⟩
theorem LB.nil (b : B4) (n : Nat) : LB b n [] := ⟨List.nodup_nil, fun _ h => (nomatch h), fun _ h => (nomatch h), Nat.zero_le n⟩
theorem LB.pb {b : B4} {n : Nat} {A : PT} (h : LB b n A) : PB b n (canon A) ∧ pol (canon A) = pol A := ⟨⟨can_canon h.nd, h.bx.canon, Nat.le_trans (l1_canon h.nd) h.l⟩, pol_canon h.tb⟩
theorem PB.lb {b : B4} {n : Nat} {A : PT} (h : PB b n A) : LB b n A := ⟨h.can.nd, h.can.2, h.bx, h.l⟩
theorem lb_perm {b : B4} {n : Nat} {A B : PT} (p : A.Perm B) (h : LB b n A) : LB b n B := ⟨(p.map _).nodup_iff.mp h.nd, fun e he => h.nz e (p.mem_iff.mpr he), fun e he => h.bx e (p.mem_iff.mpr he), by rw [← l1_perm p]; exact h.l⟩
theorem pol_perm {b : B4} {n : Nat} {A B : PT} (p : A.Perm B) (h : LB b n A) : pol A = pol B := Pol.sound fun x => by
  rw [sm_cf h.tb x, sm_cf (lb_perm p h).tb x, cf_perm h.nd p]
theorem nz_lb {b : B4} {n : Nat} {m : PT} (nd : (m.map (·.1)).Nodup) (hb : Bx b m) (hl : l1 m ≤ n) : LB b n (nz m) ∧ pol (nz m) = pol m := by
  have c : PB b n (canon m) := ⟨can_canon nd, hb.canon, Nat.le_trans (l1_canon nd) hl⟩
  have q := lb_perm (nz_perm m).symm c.lb
  exact ⟨q, by rw [pol_perm (nz_perm m) q, pol_canon ⟨nd, hb.n4⟩]⟩
theorem LB.sum {b : B4} {n m : Nat} {A B : PT} (hA : LB b n A) (hB : LB b m B) {s : Int} (hs : s.natAbs ≤ 1) : LB b (n + m) (BX.nz (BX.sumP A B s)) ∧ pol (BX.nz (BX.sumP A B s)) = pol A + Pol.con s * pol B := by
  obtain ⟨t, p⟩ := sumP_tb hA.tb hB.bx.n4 s
  have h2 := l1_sumP hA.tb hB.bx.n4 hs
  have := hA.l
  have := hB.l
  obtain ⟨q, r⟩ := nz_lb t.nd (hA.bx.sumP hB.bx s) (n := n + m) (by omega)
  exact ⟨q, by rw [r, p]⟩
theorem LB.mul {b c : B4} {n m : Nat} {A B : PT} (hA : LB b n A) (hB : LB c m B) : LB (b.add c) (n * m) (BX.nz (BX.mulP A B)) ∧ pol (BX.nz (BX.mulP A B)) = pol A * pol B := by
  obtain ⟨t, p⟩ := mulP_tb hA.bx.n4 hB.bx.n4
  have h2 := l1_mulP (A := A) (B := B)
  have h3 := Nat.mul_le_mul hA.l hB.l
  obtain ⟨q, r⟩ := nz_lb t.nd (hA.bx.mulP hB.bx) (n := n * m) (by omega)
  exact ⟨q, by rw [r, p]⟩
/-- equal tables -/
theorem lb_eq {b c : B4} {n m : Nat} {A B : PT} (hA : LB b n A) (hB : LB c m B) (h : pol A = pol B) : A.length = B.length ∧ ∀ e ∈ A, getM B e.1 = some e.2 := by
  have hc : canon A = canon B := can_pol hA.pb.1.can hA.pb.1.bx.n4 hB.pb.1.can hB.pb.1.bx.n4 (by rw [hA.pb.2, hB.pb.2, h])
  have self : ∀ {b : B4} {n : Nat} {X : PT}, LB b n X → BX.nz X = X := fun {b n X} hX => by
    unfold BX.nz
    rw [List.filterMap_map]
    have : ∀ Y : PT, (∀ e ∈ Y, e ∈ X) → Y.filterMap (canonF X ∘ fun e => e.1) = Y := by
      intro Y
      induction Y with
      | nil => intro _; rfl
      | cons e Y ih =>
        intro hY
        have he := hY e (List.mem_cons_self ..)
        have hcf : cf X e.1 = e.2 := cf_mem hX.nd (c := e.2) he
        rw [List.filterMap_cons_some (b := e), ih fun d hd => hY d (List.mem_cons_of_mem _ hd)]
        show canonF X e.1 = some e
        unfold canonF
        rw [hcf, if_neg (hX.nz e he)]
    exact this X fun _ h => h
  have pA := nz_perm A
  have pB := nz_perm B
  rw [self hA] at pA
  rw [self hB, ← hc] at pB
  have p : A.Perm B := pA.trans pB.symm
  exact ⟨p.length_eq, fun e he => getM_mem hB.nd (p.mem_iff.mp he)⟩
def scP (s : Int) (B : PT) : PT := B.map fun t => (t.1, s * t.2)
theorem sumP_sc (A B : PT) (s : Int) : sumP A B s = sumP A (scP s B) 1 := by
  unfold sumP scP
  rw [List.foldl_map]
  congr 1
  funext m t
  rw [Int.one_mul]
theorem l1_sc (s : Int) (B : PT) : l1 (scP s B) = s.natAbs * l1 B := by
  unfold scP
  induction B with
  | nil => rfl
  | cons t B ih =>
    rw [List.map_cons, l1_cons, l1_cons, ih, Nat.mul_add, Int.natAbs_mul]
theorem LB.sumS {b : B4} {n m : Nat} {A B : PT} (hA : LB b n A) (hB : LB b m B) (s : Int) : LB b (n + s.natAbs * m) (BX.nz (BX.sumP A B s)) := by
  rw [sumP_sc]
  have hb : Bx b (scP s B) := fun e he => by
    obtain ⟨t, ht, rfl⟩ := List.mem_map.mp he
    exact hB.bx t ht
  obtain ⟨t, p⟩ := sumP_tb hA.tb hb.n4 1
  have h2 := l1_sumP hA.tb hb.n4 (s := 1) (by decide)
  rw [l1_sc] at h2
  have := hA.l
  have := Nat.mul_le_mul_left s.natAbs hB.l
  exact (nz_lb t.nd (hA.bx.sumP hb 1) (n := n + s.natAbs * m) (by omega)).1
end Lw
set_option Elab.async false
set_option linter.all false
set_option maxRecDepth 100000
set_option maxHeartbeats 1000000
namespace Lw
open PySem PySem.Spec PyProof.Rows L2 BX
def top (i : Nat) : Stmt := PySem.Challenge.pw_boxedroots_k09_systems_refused.main.body.getD i (.Pass ⟨0, 0, 0, 0⟩)
abbrev s_is_integer : Stmt := top 6
abbrev s_is_within : Stmt := top 7
abbrev s_divisor_of : Stmt := top 11
abbrev s_fraction : Stmt := top 12
abbrev s_is_fraction : Stmt := top 13
abbrev s_added : Stmt := top 14
abbrev s_multiplied : Stmt := top 15
abbrev s_raised : Stmt := top 16
abbrev s_is_term : Stmt := top 21
abbrev s_Poly_init : Stmt := inClass (top 22) 0
abbrev s_Poly_eq : Stmt := inClass (top 22) 1
abbrev s_RawPoly_init : Stmt := inClass (top 23) 0
abbrev s_poly_from : Stmt := top 24
abbrev s_constant : Stmt := top 25
abbrev s_sum_with : Stmt := top 26
abbrev s_plus : Stmt := top 27
abbrev s_times : Stmt := top 28
abbrev s_power_of : Stmt := top 29
abbrev s_top : Stmt := top 30
abbrev s_degree_by : Stmt := top 31
abbrev s_without : Stmt := top 32
abbrev s_counts_by : Stmt := top 33
abbrev s_lead_by : Stmt := top 34
abbrev s_slope_by : Stmt := top 35
abbrev s_worth_at : Stmt := top 36
abbrev s_is_in : Stmt := top 37
abbrev s_is_poly_in : Stmt := top 38
abbrev s_check_polys : Stmt := top 42
abbrev s_System_init : Stmt := inClass (top 43) 0
abbrev s_System_eq : Stmt := inClass (top 43) 1
abbrev s_is_point : Stmt := top 44
abbrev s_whole_point : Stmt := top 45
abbrev s_is_root_of : Stmt := top 46
abbrev s_is_root : Stmt := top 47
abbrev s_multiple_of : Stmt := top 49
abbrev s_product_of_powers : Stmt := top 50
abbrev s_sum_of_products : Stmt := top 51
abbrev s_are_polys : Stmt := top 53
abbrev s_is_chain : Stmt := top 54
abbrev s_is_free : Stmt := top 55
abbrev s_is_right_paper : Stmt := top 56
abbrev s_is_early_paper : Stmt := top 57
abbrev s_lead_and_slope : Stmt := top 58
abbrev s_are_powers : Stmt := top 62
abbrev s_fits_by_degrees : Stmt := top 63
abbrev s_is_told : Stmt := top 64
abbrev s_chain_in : Stmt := top 65
abbrev s_are_papers : Stmt := top 66
abbrev s_is_leaf : Stmt := top 67
abbrev s_dropped : Stmt := top 68
abbrev s_states_behind : Stmt := top 69
abbrev s_walked : Stmt := top 70
abbrev s_cover_fault : Stmt := top 71
abbrev s_is_cover : Stmt := top 72
abbrev s_L_hand : Stmt := top 74
abbrev s_L_draw : Stmt := top 75
abbrev s_L_any : Stmt := top 76
abbrev s_L_var : Stmt := top 77
abbrev s_L_plus : Stmt := top 78
abbrev s_L_mark : Stmt := top 79
abbrev s_L_marks : Stmt := top 80
abbrev s_L_is_marked : Stmt := top 81
abbrev s_L_small : Stmt := top 82
abbrev s_L_is_int : Stmt := top 83
abbrev s_L_is_in : Stmt := top 84
abbrev s_L_deep : Stmt := top 85
abbrev s_L_packed : Stmt := top 86
abbrev s_L_unpacked : Stmt := top 87
abbrev s_L_wrong : Stmt := top 88
abbrev s_L_made : Stmt := top 89
abbrev s_L_odd : Stmt := top 90
abbrev s_L_bent_rows : Stmt := top 91
abbrev s_L_flag : Stmt := top 92
abbrev s_L_bent_parts : Stmt := top 93
abbrev s_L_is_odd_told : Stmt := top 94
abbrev s_law : Stmt := top 95
structure Txt (K : PySem.W.Frag) (mg : Str → Option Value) : Prop where
  b_len : mg "len" = none
  b_isinstance : mg "isinstance" = none
  b_int : mg "int" = none
  b_abs : mg "abs" = none
  b_range : mg "range" = none
  b_sorted : mg "sorted" = none
  b_tuple : mg "tuple" = none
  b_list : mg "list" = none
  b_dict : mg "dict" = none
  b_max : mg "max" = none
  b_sum : mg "sum" = none
  b_any : mg "any" = none
  b_all : mg "all" = none
  b_enumerate : mg "enumerate" = none
  b_zip : mg "zip" = none
  b_bool : mg "bool" = none
  b_str : mg "str" = none
  b_ValueError : mg "ValueError" = none
  b_super : mg "super" = none
  g_is_integer : mg "is_integer" = some (.ref (He.ga K "is_integer"))
  g_is_within : mg "is_within" = some (.ref (He.ga K "is_within"))
  g_divisor_of : mg "divisor_of" = some (.ref (He.ga K "divisor_of"))
  g_fraction : mg "fraction" = some (.ref (He.ga K "fraction"))
  g_is_fraction : mg "is_fraction" = some (.ref (He.ga K "is_fraction"))
  g_added : mg "added" = some (.ref (He.ga K "added"))
  g_multiplied : mg "multiplied" = some (.ref (He.ga K "multiplied"))
  g_raised : mg "raised" = some (.ref (He.ga K "raised"))
  g_is_term : mg "is_term" = some (.ref (He.ga K "is_term"))
  g_poly_from : mg "poly_from" = some (.ref (He.ga K "poly_from"))
  g_constant : mg "constant" = some (.ref (He.ga K "constant"))
  g_sum_with : mg "sum_with" = some (.ref (He.ga K "sum_with"))
  g_plus : mg "plus" = some (.ref (He.ga K "plus"))
  g_times : mg "times" = some (.ref (He.ga K "times"))
  g_power_of : mg "power_of" = some (.ref (He.ga K "power_of"))
  g_top : mg "top" = some (.ref (He.ga K "top"))
  g_degree_by : mg "degree_by" = some (.ref (He.ga K "degree_by"))
  g_without : mg "without" = some (.ref (He.ga K "without"))
  g_counts_by : mg "counts_by" = some (.ref (He.ga K "counts_by"))
  g_lead_by : mg "lead_by" = some (.ref (He.ga K "lead_by"))
  g_slope_by : mg "slope_by" = some (.ref (He.ga K "slope_by"))
  g_worth_at : mg "worth_at" = some (.ref (He.ga K "worth_at"))
  g_is_in : mg "is_in" = some (.ref (He.ga K "is_in"))
  g_is_poly_in : mg "is_poly_in" = some (.ref (He.ga K "is_poly_in"))
  g_check_polys : mg "check_polys" = some (.ref (He.ga K "check_polys"))
  g_is_point : mg "is_point" = some (.ref (He.ga K "is_point"))
  g_whole_point : mg "whole_point" = some (.ref (He.ga K "whole_point"))
  g_is_root_of : mg "is_root_of" = some (.ref (He.ga K "is_root_of"))
  g_is_root : mg "is_root" = some (.ref (He.ga K "is_root"))
  g_multiple_of : mg "multiple_of" = some (.ref (He.ga K "multiple_of"))
  g_product_of_powers : mg "product_of_powers" = some (.ref (He.ga K "product_of_powers"))
  g_sum_of_products : mg "sum_of_products" = some (.ref (He.ga K "sum_of_products"))
  g_are_polys : mg "are_polys" = some (.ref (He.ga K "are_polys"))
  g_is_chain : mg "is_chain" = some (.ref (He.ga K "is_chain"))
  g_is_free : mg "is_free" = some (.ref (He.ga K "is_free"))
  g_is_right_paper : mg "is_right_paper" = some (.ref (He.ga K "is_right_paper"))
  g_is_early_paper : mg "is_early_paper" = some (.ref (He.ga K "is_early_paper"))
  g_lead_and_slope : mg "lead_and_slope" = some (.ref (He.ga K "lead_and_slope"))
  g_are_powers : mg "are_powers" = some (.ref (He.ga K "are_powers"))
  g_fits_by_degrees : mg "fits_by_degrees" = some (.ref (He.ga K "fits_by_degrees"))
  g_is_told : mg "is_told" = some (.ref (He.ga K "is_told"))
  g_chain_in : mg "chain_in" = some (.ref (He.ga K "chain_in"))
  g_are_papers : mg "are_papers" = some (.ref (He.ga K "are_papers"))
  g_is_leaf : mg "is_leaf" = some (.ref (He.ga K "is_leaf"))
  g_dropped : mg "dropped" = some (.ref (He.ga K "dropped"))
  g_states_behind : mg "states_behind" = some (.ref (He.ga K "states_behind"))
  g_walked : mg "walked" = some (.ref (He.ga K "walked"))
  g_cover_fault : mg "cover_fault" = some (.ref (He.ga K "cover_fault"))
  g_is_cover : mg "is_cover" = some (.ref (He.ga K "is_cover"))
  g_L_hand : mg "_law_hand" = some (.ref (He.ga K "_law_hand"))
  g_L_draw : mg "_law_draw" = some (.ref (He.ga K "_law_draw"))
  g_L_any : mg "_law_any" = some (.ref (He.ga K "_law_any"))
  g_L_var : mg "_law_var" = some (.ref (He.ga K "_law_var"))
  g_L_plus : mg "_law_plus" = some (.ref (He.ga K "_law_plus"))
  g_L_mark : mg "_law_mark" = some (.ref (He.ga K "_law_mark"))
  g_L_marks : mg "_law_marks" = some (.ref (He.ga K "_law_marks"))
  g_L_is_marked : mg "_law_is_marked" = some (.ref (He.ga K "_law_is_marked"))
  g_L_small : mg "_law_small" = some (.ref (He.ga K "_law_small"))
  g_L_is_int : mg "_law_is_int" = some (.ref (He.ga K "_law_is_int"))
  g_L_is_in : mg "_law_is_in" = some (.ref (He.ga K "_law_is_in"))
  g_L_deep : mg "_law_deep" = some (.ref (He.ga K "_law_deep"))
  g_L_packed : mg "_law_packed" = some (.ref (He.ga K "_law_packed"))
  g_L_unpacked : mg "_law_unpacked" = some (.ref (He.ga K "_law_unpacked"))
  g_L_wrong : mg "_law_wrong" = some (.ref (He.ga K "_law_wrong"))
  g_L_made : mg "_law_made" = some (.ref (He.ga K "_law_made"))
  g_L_odd : mg "_law_odd" = some (.ref (He.ga K "_law_odd"))
  g_L_bent_rows : mg "_law_bent_rows" = some (.ref (He.ga K "_law_bent_rows"))
  g_L_flag : mg "_law_flag" = some (.ref (He.ga K "_law_flag"))
  g_L_bent_parts : mg "_law_bent_parts" = some (.ref (He.ga K "_law_bent_parts"))
  g_L_is_odd_told : mg "_law_is_odd_told" = some (.ref (He.ga K "_law_is_odd_told"))
  g_law : mg "law" = some (.ref (He.ga K "law"))
  c_UNKNOWNS : ∃ t, mg "UNKNOWNS" = some (.int 4 t)
  c_ZERO : mg "ZERO" = some (.ref (He.ga K "ZERO"))
  c_ONE : mg "ONE" = some (.ref (He.ga K "ONE"))
  c_MOST_TERMS : ∃ t, mg "MOST_TERMS" = some (.int 300 t)
  c_MOST_POWER : ∃ t, mg "MOST_POWER" = some (.int 60 t)
  c_NO_POWERS : mg "NO_POWERS" = some (.ref (He.ga K "NO_POWERS"))
  c_MOST_UNKNOWNS : ∃ t, mg "MOST_UNKNOWNS" = some (.int 3 t)
  c_MOST_POLYS : ∃ t, mg "MOST_POLYS" = some (.int 6 t)
  c_MOST_POWERS : ∃ t, mg "MOST_POWERS" = some (.int 1000 t)
  c_SIZES : mg "SIZES" = some (.ref (He.ga K "SIZES"))
  c_BadPoly : mg "BadPoly" = some (.ref (He.ga K "BadPoly"))
  c_BadSystem : mg "BadSystem" = some (.ref (He.ga K "BadSystem"))
  c_RootError : mg "RootError" = some (.ref (He.ga K "RootError"))
  c_Poly : mg "Poly" = some (.ref (He.ga K "Poly"))
  m_Poly : Mk K (He.ga K "Poly") (He.ma K (He.ga K "Poly") "__init__")
  cl_Poly : Cls K (He.ga K "Poly")
  c_RawPoly : mg "RawPoly" = some (.ref (He.ga K "RawPoly"))
  m_RawPoly : Mk K (He.ga K "RawPoly") (He.ma K (He.ga K "RawPoly") "__init__")
  cl_RawPoly : Cls K (He.ga K "RawPoly")
  c_System : mg "System" = some (.ref (He.ga K "System"))
  m_System : Mk K (He.ga K "System") (He.ma K (He.ga K "System") "__init__")
  cl_System : Cls K (He.ga K "System")
theorem sc_is_integer : FnScope ["thing"] ["thing"] (defScope s_is_integer) := ⟨rfl, rfl, rfl, by decide +kernel, rfl, by decide +kernel, by decide +kernel⟩
theorem sc_is_within : FnScope ["thing", "least", "most"] ["thing", "least", "most"] (defScope s_is_within) := ⟨rfl, rfl, rfl, by decide +kernel, rfl, by decide +kernel, by decide +kernel⟩
theorem sc_divisor_of : FnScope ["one", "other"] ["one", "other"] (defScope s_divisor_of) := ⟨rfl, rfl, rfl, by decide +kernel, rfl, by decide +kernel, by decide +kernel⟩
theorem sc_fraction : FnScope ["top", "bottom", "by"] ["top", "bottom"] (defScope s_fraction) := ⟨rfl, rfl, rfl, by decide +kernel, rfl, by decide +kernel, by decide +kernel⟩
theorem sc_is_fraction : FnScope ["thing"] ["thing"] (defScope s_is_fraction) := ⟨rfl, rfl, rfl, by decide +kernel, rfl, by decide +kernel, by decide +kernel⟩
theorem sc_added : FnScope ["one", "other"] ["one", "other"] (defScope s_added) := ⟨rfl, rfl, rfl, by decide +kernel, rfl, by decide +kernel, by decide +kernel⟩
theorem sc_multiplied : FnScope ["one", "other"] ["one", "other"] (defScope s_multiplied) := ⟨rfl, rfl, rfl, by decide +kernel, rfl, by decide +kernel, by decide +kernel⟩
theorem sc_raised : FnScope ["number", "many", "found", "turn"] ["number", "many"] (defScope s_raised) := ⟨rfl, rfl, rfl, by decide +kernel, rfl, by decide +kernel, by decide +kernel⟩
theorem sc_is_term : FnScope ["thing", "power"] ["thing"] (defScope s_is_term) := ⟨rfl, rfl, rfl, by decide +kernel, rfl, by decide +kernel, by decide +kernel⟩
theorem sc_Poly_init : FnScope ["self", "terms", "index", "term"] ["self", "terms"] (defScope s_Poly_init) := ⟨rfl, rfl, rfl, by decide +kernel, rfl, by decide +kernel, by decide +kernel⟩
theorem sc_Poly_eq : FnScope ["self", "other"] ["self", "other"] (defScope s_Poly_eq) := ⟨rfl, rfl, rfl, by decide +kernel, rfl, by decide +kernel, by decide +kernel⟩
theorem sc_RawPoly_init : FnScope ["self", "terms"] ["self", "terms"] (defScope s_RawPoly_init) := ⟨rfl, rfl, rfl, by decide +kernel, rfl, by decide +kernel, by decide +kernel⟩
theorem sc_poly_from : FnScope ["parts", "powers"] ["parts"] (defScope s_poly_from) := ⟨rfl, rfl, rfl, by decide +kernel, rfl, by decide +kernel, by decide +kernel⟩
theorem sc_constant : FnScope ["number"] ["number"] (defScope s_constant) := ⟨rfl, rfl, rfl, by decide +kernel, rfl, by decide +kernel, by decide +kernel⟩
theorem sc_sum_with : FnScope ["one", "other", "by", "parts", "powers", "count"] ["one", "other", "by"] (defScope s_sum_with) := ⟨rfl, rfl, rfl, by decide +kernel, rfl, by decide +kernel, by decide +kernel⟩
theorem sc_plus : FnScope ["one", "other"] ["one", "other"] (defScope s_plus) := ⟨rfl, rfl, rfl, by decide +kernel, rfl, by decide +kernel, by decide +kernel⟩
theorem sc_times : FnScope ["one", "other", "parts", "here", "count", "there", "many", "powers"] ["one", "other"] (defScope s_times) := ⟨rfl, rfl, rfl, by decide +kernel, rfl, by decide +kernel, by decide +kernel⟩
theorem sc_power_of : FnScope ["poly", "many", "found"] ["poly", "many"] (defScope s_power_of) := ⟨rfl, rfl, rfl, by decide +kernel, rfl, by decide +kernel, by decide +kernel⟩
theorem sc_top : FnScope ["poly", "found", "k", "powers", "count"] ["poly"] (defScope s_top) := ⟨rfl, rfl, rfl, by decide +kernel, rfl, by decide +kernel, by decide +kernel⟩
theorem sc_degree_by : FnScope ["poly", "k", "powers", "count"] ["poly", "k"] (defScope s_degree_by) := ⟨rfl, rfl, rfl, by decide +kernel, rfl, by decide +kernel, by decide +kernel⟩
theorem sc_without : FnScope ["powers", "k"] ["powers", "k"] (defScope s_without) := ⟨rfl, rfl, rfl, by decide +kernel, rfl, by decide +kernel, by decide +kernel⟩
theorem sc_counts_by : FnScope ["poly", "k", "found", "powers", "count", "power_here", "parts"] ["poly", "k"] (defScope s_counts_by) := ⟨rfl, rfl, rfl, by decide +kernel, rfl, by decide +kernel, by decide +kernel⟩
theorem sc_lead_by : FnScope ["poly", "k"] ["poly", "k"] (defScope s_lead_by) := ⟨rfl, rfl, rfl, by decide +kernel, rfl, by decide +kernel, by decide +kernel⟩
theorem sc_slope_by : FnScope ["poly", "k", "parts", "powers", "count"] ["poly", "k"] (defScope s_slope_by) := ⟨rfl, rfl, rfl, by decide +kernel, rfl, by decide +kernel, by decide +kernel⟩
theorem sc_worth_at : FnScope ["poly", "point", "found", "powers", "count", "term", "place", "many"] ["poly", "point"] (defScope s_worth_at) := ⟨rfl, rfl, rfl, by decide +kernel, rfl, by decide +kernel, by decide +kernel⟩
theorem sc_is_in : FnScope ["poly", "many", "powers", "count"] ["poly", "many"] (defScope s_is_in) := ⟨rfl, rfl, rfl, by decide +kernel, rfl, by decide +kernel, by decide +kernel⟩
theorem sc_is_poly_in : FnScope ["thing", "many"] ["thing", "many"] (defScope s_is_poly_in) := ⟨rfl, rfl, rfl, by decide +kernel, rfl, by decide +kernel, by decide +kernel⟩
theorem sc_check_polys : FnScope ["thing", "many", "one", "all_of_them", "at", "poly"] ["thing", "many", "one", "all_of_them"] (defScope s_check_polys) := ⟨rfl, rfl, rfl, by decide +kernel, rfl, by decide +kernel, by decide +kernel⟩
theorem sc_System_init : FnScope ["self", "many", "equations", "barred"] ["self", "many", "equations", "barred"] (defScope s_System_init) := ⟨rfl, rfl, rfl, by decide +kernel, rfl, by decide +kernel, by decide +kernel⟩
theorem sc_System_eq : FnScope ["self", "other"] ["self", "other"] (defScope s_System_eq) := ⟨rfl, rfl, rfl, by decide +kernel, rfl, by decide +kernel, by decide +kernel⟩
theorem sc_is_point : FnScope ["thing", "many", "place"] ["thing", "many"] (defScope s_is_point) := ⟨rfl, rfl, rfl, by decide +kernel, rfl, by decide +kernel, by decide +kernel⟩
theorem sc_whole_point : FnScope ["point"] ["point"] (defScope s_whole_point) := ⟨rfl, rfl, rfl, by decide +kernel, rfl, by decide +kernel, by decide +kernel⟩
theorem sc_is_root_of : FnScope ["equations", "barred", "point", "whole", "poly"] ["equations", "barred", "point"] (defScope s_is_root_of) := ⟨rfl, rfl, rfl, by decide +kernel, rfl, by decide +kernel, by decide +kernel⟩
theorem sc_is_root : FnScope ["system", "thing"] ["system", "thing"] (defScope s_is_root) := ⟨rfl, rfl, rfl, by decide +kernel, rfl, by decide +kernel, by decide +kernel⟩
theorem sc_multiple_of : FnScope ["one", "other", "by"] ["one", "other"] (defScope s_multiple_of) := ⟨rfl, rfl, rfl, by decide +kernel, rfl, by decide +kernel, by decide +kernel⟩
theorem sc_product_of_powers : FnScope ["polys", "powers", "found", "poly", "many"] ["polys", "powers"] (defScope s_product_of_powers) := ⟨rfl, rfl, rfl, by decide +kernel, rfl, by decide +kernel, by decide +kernel⟩
theorem sc_sum_of_products : FnScope ["counts", "polys", "found", "count", "poly"] ["counts", "polys"] (defScope s_sum_of_products) := ⟨rfl, rfl, rfl, by decide +kernel, rfl, by decide +kernel, by decide +kernel⟩
theorem sc_are_polys : FnScope ["thing", "many", "size", "poly"] ["thing", "many", "size"] (defScope s_are_polys) := ⟨rfl, rfl, rfl, by decide +kernel, rfl, by decide +kernel, by decide +kernel⟩
theorem sc_is_chain : FnScope ["many", "thing", "tops", "poly", "at"] ["many", "thing"] (defScope s_is_chain) := ⟨rfl, rfl, rfl, by decide +kernel, rfl, by decide +kernel, by decide +kernel⟩
theorem sc_is_free : FnScope ["poly", "chain", "each"] ["poly", "chain"] (defScope s_is_free) := ⟨rfl, rfl, rfl, by decide +kernel, rfl, by decide +kernel, by decide +kernel⟩
theorem sc_is_right_paper : FnScope ["many", "chain", "poly", "thing", "u", "counts", "r"] ["many", "chain", "poly", "thing"] (defScope s_is_right_paper) := ⟨rfl, rfl, rfl, by decide +kernel, rfl, by decide +kernel, by decide +kernel⟩
theorem sc_is_early_paper : FnScope ["many", "chain", "at", "poly", "thing", "count"] ["many", "chain", "at", "poly", "thing"] (defScope s_is_early_paper) := ⟨rfl, rfl, rfl, by decide +kernel, rfl, by decide +kernel, by decide +kernel⟩
theorem sc_lead_and_slope : FnScope ["poly", "k"] ["poly"] (defScope s_lead_and_slope) := ⟨rfl, rfl, rfl, by decide +kernel, rfl, by decide +kernel, by decide +kernel⟩
theorem sc_are_powers : FnScope ["thing", "many", "one"] ["thing", "many"] (defScope s_are_powers) := ⟨rfl, rfl, rfl, by decide +kernel, rfl, by decide +kernel, by decide +kernel⟩
theorem sc_fits_by_degrees : FnScope ["many", "told", "factors", "k", "poly", "times_in"] ["many", "told", "factors"] (defScope s_fits_by_degrees) := ⟨rfl, rfl, rfl, by decide +kernel, rfl, by decide +kernel, by decide +kernel⟩
theorem sc_is_told : FnScope ["many", "equations", "barred", "poly", "powers", "counts", "told", "factors", "by", "times_in"] ["many", "equations", "barred", "poly", "powers", "counts"] (defScope s_is_told) := ⟨rfl, rfl, rfl, by decide +kernel, rfl, by decide +kernel, by decide +kernel⟩
theorem sc_chain_in : FnScope ["equations", "tops", "order", "poly", "at", "first"] ["equations"] (defScope s_chain_in) := ⟨rfl, rfl, rfl, by decide +kernel, rfl, by decide +kernel, by decide +kernel⟩
theorem sc_are_papers : FnScope ["many", "chain", "barred", "thing", "at", "poly", "rest", "first", "rise", "paper"] ["many", "chain", "barred", "thing"] (defScope s_are_papers) := ⟨rfl, rfl, rfl, by decide +kernel, rfl, by decide +kernel, by decide +kernel⟩
theorem sc_is_leaf : FnScope ["many", "equations", "barred", "papers", "chain"] ["many", "equations", "barred", "papers"] (defScope s_is_leaf) := ⟨rfl, rfl, rfl, by decide +kernel, rfl, by decide +kernel, by decide +kernel⟩
theorem sc_dropped : FnScope ["many", "equations", "barred", "step", "word", "at", "powers", "counts", "others"] ["many", "equations", "barred", "step"] (defScope s_dropped) := ⟨rfl, rfl, rfl, by decide +kernel, rfl, by decide +kernel, by decide +kernel⟩
theorem sc_states_behind : FnScope ["many", "state", "step", "equations", "barred", "longer"] ["many", "state", "step"] (defScope s_states_behind) := ⟨rfl, rfl, rfl, by decide +kernel, rfl, by decide +kernel, by decide +kernel⟩
theorem sc_walked : FnScope ["system", "cover", "states", "found", "number", "step", "state", "behind"] ["system", "cover"] (defScope s_walked) := ⟨rfl, rfl, rfl, by decide +kernel, rfl, by decide +kernel, by decide +kernel⟩
theorem sc_cover_fault : FnScope ["system", "thing"] ["system", "thing"] (defScope s_cover_fault) := ⟨rfl, rfl, rfl, by decide +kernel, rfl, by decide +kernel, by decide +kernel⟩
theorem sc_is_cover : FnScope ["system", "thing"] ["system", "thing"] (defScope s_is_cover) := ⟨rfl, rfl, rfl, by decide +kernel, rfl, by decide +kernel, by decide +kernel⟩
theorem sc_L_hand : FnScope ["_law_script", "_law_cells", "_law_cell"] ["_law_script"] (defScope s_L_hand) := ⟨rfl, rfl, rfl, by decide +kernel, rfl, by decide +kernel, by decide +kernel⟩
theorem sc_L_draw : FnScope ["_law_hand_here", "_law_many", "_law_number", "_law_cell", "_law_digit"] ["_law_hand_here", "_law_many"] (defScope s_L_draw) := ⟨rfl, rfl, rfl, by decide +kernel, rfl, by decide +kernel, by decide +kernel⟩
theorem sc_L_any : FnScope ["_law_hand_here", "_law_things"] ["_law_hand_here", "_law_things"] (defScope s_L_any) := ⟨rfl, rfl, rfl, by decide +kernel, rfl, by decide +kernel, by decide +kernel⟩
theorem sc_L_var : FnScope ["_law_k", "_law_other"] ["_law_k"] (defScope s_L_var) := ⟨rfl, rfl, rfl, by decide +kernel, rfl, by decide +kernel, by decide +kernel⟩
theorem sc_L_plus : FnScope ["_law_one", "_law_other", "_law_by", "_law_found", "_law_powers"] ["_law_one", "_law_other", "_law_by"] (defScope s_L_plus) := ⟨rfl, rfl, rfl, by decide +kernel, rfl, by decide +kernel, by decide +kernel⟩
theorem sc_L_mark : FnScope ["_law_parts"] ["_law_parts"] (defScope s_L_mark) := ⟨rfl, rfl, rfl, by decide +kernel, rfl, by decide +kernel, by decide +kernel⟩
theorem sc_L_marks : FnScope ["_law_some", "_law_parts"] ["_law_some"] (defScope s_L_marks) := ⟨rfl, rfl, rfl, by decide +kernel, rfl, by decide +kernel, by decide +kernel⟩
theorem sc_L_is_marked : FnScope ["_law_thing"] ["_law_thing"] (defScope s_L_is_marked) := ⟨rfl, rfl, rfl, by decide +kernel, rfl, by decide +kernel, by decide +kernel⟩
theorem sc_L_small : FnScope ["_law_hand_here", "_law_many", "_law_most", "_law_found", "_law_turn", "_law_powers", "_law_k"] ["_law_hand_here", "_law_many", "_law_most"] (defScope s_L_small) := ⟨rfl, rfl, rfl, by decide +kernel, rfl, by decide +kernel, by decide +kernel⟩
theorem sc_L_is_int : FnScope ["_law_thing"] ["_law_thing"] (defScope s_L_is_int) := ⟨rfl, rfl, rfl, by decide +kernel, rfl, by decide +kernel, by decide +kernel⟩
theorem sc_L_is_in : FnScope ["_law_thing", "_law_many", "_law_powers"] ["_law_thing", "_law_many"] (defScope s_L_is_in) := ⟨rfl, rfl, rfl, by decide +kernel, rfl, by decide +kernel, by decide +kernel⟩
theorem sc_L_deep : FnScope ["_law_hand_here", "_law_found", "_law_turn"] ["_law_hand_here"] (defScope s_L_deep) := ⟨rfl, rfl, rfl, by decide +kernel, rfl, by decide +kernel, by decide +kernel⟩
theorem sc_L_packed : FnScope ["_law_thing", "_law_item", "_law_powers"] ["_law_thing"] (defScope s_L_packed) := ⟨rfl, rfl, rfl, by decide +kernel, rfl, by decide +kernel, by decide +kernel⟩
theorem sc_L_unpacked : FnScope ["_law_thing", "_law_item"] ["_law_thing"] (defScope s_L_unpacked) := ⟨rfl, rfl, rfl, by decide +kernel, rfl, by decide +kernel, by decide +kernel⟩
theorem sc_L_wrong : FnScope ["_law_many", "_law_equations", "_law_barred", "_law_rows", "_law_one", "_law_every", "_law_at"] ["_law_many", "_law_equations", "_law_barred"] (defScope s_L_wrong) := ⟨rfl, rfl, rfl, by decide +kernel, rfl, by decide +kernel, by decide +kernel⟩
theorem sc_L_made : FnScope ["_law_many", "_law_equations", "_law_barred", "_law_found", "e"] ["_law_many", "_law_equations", "_law_barred"] (defScope s_L_made) := ⟨rfl, rfl, rfl, by decide +kernel, rfl, by decide +kernel, by decide +kernel⟩
theorem sc_L_odd : FnScope ["_law_hand_here", "_law_some"] ["_law_hand_here"] (defScope s_L_odd) := ⟨rfl, rfl, rfl, by decide +kernel, rfl, by decide +kernel, by decide +kernel⟩
theorem sc_L_bent_rows : FnScope ["_law_hand_here", "_law_rows", "_law_at", "_law_one", "_law_odd_here"] ["_law_hand_here", "_law_rows"] (defScope s_L_bent_rows) := ⟨rfl, rfl, rfl, by decide +kernel, rfl, by decide +kernel, by decide +kernel⟩
theorem sc_L_flag : FnScope ["_law_flag_here", "_law_due"] ["_law_flag_here", "_law_due"] (defScope s_L_flag) := ⟨rfl, rfl, rfl, by decide +kernel, rfl, by decide +kernel, by decide +kernel⟩
theorem sc_L_bent_parts : FnScope ["_law_hand_here", "_law_many", "_law_equations", "_law_barred", "_law_kind", "_law_parts"] ["_law_hand_here", "_law_many", "_law_equations", "_law_barred"] (defScope s_L_bent_parts) := ⟨rfl, rfl, rfl, by decide +kernel, rfl, by decide +kernel, by decide +kernel⟩
theorem sc_L_is_odd_told : FnScope ["_law_hand_here", "_law_system", "_law_many", "_law_odd_here", "_law_thing", "_law_steps"] ["_law_hand_here", "_law_system", "_law_many"] (defScope s_L_is_odd_told) := ⟨rfl, rfl, rfl, by decide +kernel, rfl, by decide +kernel, by decide +kernel⟩
theorem sc_law : FnScope ["_law_script", "_law_hand_here", "_law_turn", "_law_many", "_law_equations", "_law_barred", "_law_parts", "_law_wrong_here", "_law_due", "_law_system", "_law_again", "_law_other", "_law_k"] ["_law_script"] (defScope s_law) := ⟨rfl, rfl, rfl, by decide +kernel, rfl, by decide +kernel, by decide +kernel⟩
end Lw
set_option Elab.async false
set_option linter.all false
set_option maxRecDepth 100000
set_option maxHeartbeats 1000000
namespace Lw
open PySem PySem.Spec PyProof.Rows L2 BX
abbrev rTms (K : PySem.W.Frag) (ts : PT) : Rel := rTup K (ts.map fun t => rTup K [rKey K t.1, rInt t.2])
abbrev fT : Str := "terms"
def rPT (K : PySem.W.Frag) (C : Addr) (ts : PT) : Rel := rIns C [(fT, rTms K ts)]
abbrev rDI (P : Program) (w : World) (K : PySem.W.Frag) (m : PT) : Rel := rDct P w K (m.map fun e => (e.1, rInt e.2))
def S_is_integer (P : Program) (w : World) (K : PySem.W.Frag) : Spc := fun rs k => ∃ i, rs = [rInt i] ∧ k (rBl true)
def S_is_within (P : Program) (w : World) (K : PySem.W.Frag) : Spc := fun rs k => ∃ i a b, rs = [rInt i, rInt a, rInt b] ∧ k (rBl (decide (a ≤ i) && decide (i ≤ b)))
def S_check_unknown (P : Program) (w : World) (K : PySem.W.Frag) : Spc := fun rs k => ∃ i : Int, rs = [rInt i] ∧ (0 ≤ i ∧ i ≤ 3) ∧ k rNon
theorem k_ii (K : PySem.W.Frag) : PySem.W.kitOne K (.type "int") (.type "int") = some true := kit_ty (by decide +kernel)
theorem k_ib (K : PySem.W.Frag) : PySem.W.kitOne K (.type "int") (.type "bool") = some false := kit_ty (by decide +kernel)
theorem k_tt (K : PySem.W.Frag) : PySem.W.kitOne K (.type "tuple") (.type "tuple") = some true := kit_ty (by decide +kernel)
theorem k_ll (K : PySem.W.Frag) : PySem.W.kitOne K (.type "list") (.type "list") = some true := kit_ty (by decide +kernel)
theorem k_dd (K : PySem.W.Frag) : PySem.W.kitOne K (.type "dict") (.type "dict") = some true := kit_ty (by decide +kernel)
end Lw
set_option Elab.async false
set_option linter.all false
set_option maxRecDepth 100000
set_option maxHeartbeats 1000000
namespace Lw
open PySem PySem.Spec PyProof.Rows L2 BX
abbrev CP (K : PySem.W.Frag) : Addr := He.ga K "Poly"
abbrev CR (K : PySem.W.Frag) : Addr := He.ga K "RawPoly"
/-- powers that a term may have -/
def PwOk (p : List Int) : Prop := p.length = 4 ∧ ∀ x ∈ p, 0 ≤ x ∧ x ≤ 60
def S_is_term (P : Program) (w : World) (K : PySem.W.Frag) : Spc := fun rs k => ∃ p c, rs = [rTup K [rKey K p, rInt c]] ∧ PwOk p ∧ c ≠ 0 ∧ k (rBl true)
def TsOk (ts : PT) : Prop := ts.length ≤ 300 ∧ (∀ t ∈ ts, PwOk t.1 ∧ t.2 ≠ 0) ∧ ts.Pairwise (fun a b => HT.lexLt a.1 b.1 = true)
def S_Poly_init (P : Program) (w : World) (K : PySem.W.Frag) : List Rel → List (Str × Rel) → Prop := fun rs fs => ∃ ts, rs = [rTms K ts] ∧ TsOk ts ∧ fs = [(fT, rTms K ts)]
def S_RawPoly_init (P : Program) (w : World) (K : PySem.W.Frag) : List Rel → List (Str × Rel) → Prop := fun rs fs => ∃ ts, rs = [rTms K ts] ∧ fs = [(fT, rTms K ts)]
theorem getD_map {α : Type} {g : α → Rel} {L : List α} {d : Rel} {i : Nat} (hi : i < L.length) : (L.map g).getD i d = g L[i] := by
  rw [List.getD_eq_getElem?_getD, List.getElem?_map, List.getElem?_eq_getElem hi]
  rfl
theorem ct_allE {B : Bd} {k : Rel → Prop} {rs : List Rel} (bs : List Bool) (he : rs = bs.map rBl) (q : k (rBl (bs.all id))) : CaT B (rAll B.K) [rLst rs] k := by
  subst he
  exact ct_all q
theorem all_true (n : Nat) : (List.replicate n true).all id = true := by induction n with
  | zero => rfl
  | succ n ih => simp [List.replicate_succ]
theorem getD_mem' {p : List Int} {i : Nat} (h : i < p.length) : p.getD i 0 ∈ p := by
  rw [List.getD_eq_getElem?_getD, List.getElem?_eq_getElem h]
  exact List.getElem_mem h
theorem ndx_tms {K : PySem.W.Frag} {ts : PT} : Ndx (rTms K ts) := ndx_tup fun r hr => by
  obtain ⟨t, _, rfl⟩ := List.mem_map.mp hr
  refine ndx_tup fun r hr => ?_
  rcases List.mem_cons.mp hr with rfl | hr
  · refine ndx_tup fun r hr => ?_
    obtain ⟨i, _, rfl⟩ := List.mem_map.mp hr
    exact ndx_c
  · rw [List.mem_singleton.mp hr]
    exact ndx_c
end Lw
set_option Elab.async false
set_option linter.all false
set_option maxRecDepth 100000
set_option maxHeartbeats 1000000
namespace Lw
open PySem PySem.Spec PyProof.Rows L2 BX EX
structure CalleeX (P : Program) (w : World) (K : PySem.W.Frag) (mg : Str → Option Value) (base : Heap) (f : Addr) (fd : FuncData) (ps : List Str) (lv : Nat) (sp : Sp) : Prop where
  kp : PySem.W.keepIn K (.ref f) = true
  b : Binds K fd ps []
  F : FnOk P w K mg base (L2.CX P w) lv f fd ps sp
/-- a class with its own __init__ -/
structure OwnE (P : Program) (w : World) (K : PySem.W.Frag) (mg : Str → Option Value) (base : Heap) (C fI : Addr) (fd : FuncData) (f : Str) : Prop where
  oex : OexC K C
  iC : PySem.W.findIn K (.ref C) "__init__" = some (some (.ref fI))
  tI : PySem.W.typeIn K (.ref fI) = some (.type "function")
  F : FnOk P w K mg base CX0 1 fI fd ["self", f] (spInit C f)
  b : Binds K fd ["self", f] []
def S_is_integer2 (P : Program) (w : World) (K : PySem.W.Frag) : Spc := fun rs k => ∃ d, rs = [rDt P w K d] ∧ k (rBl (isIntD d))
/-- a number from a to b -/
def inD (d : Dt) (a b : Int) : Bool := match d with
  | .int i => decide (a ≤ i) && decide (i ≤ b)
  | _ => false
def S_is_within2 (P : Program) (w : World) (K : PySem.W.Frag) : Spc := fun rs k => ∃ d a b, rs = [rDt P w K d, rInt a, rInt b] ∧ k (rBl (inD d a b))
theorem ok_is_integer {P : Program} {w : World} {K : PySem.W.Frag} {mg : Str → Option Value} {base : Heap} {f : Addr} {fd : FuncData} (T : Txt K mg) (F : FunD K "is_integer" "is_integer" (defArgs s_is_integer) (defBody s_is_integer) (defScope s_is_integer) [] [] f fd)   :
    FnOk P w K mg base CX0 1 f fd ["thing"] (spOf (S_is_integer2 P w K)) := by
  refine F.ok sc_is_integer (len_of (by intro rs k h; first | (obtain ⟨e, _⟩ := h; subst e; exact rfl) | (obtain ⟨_, e, _⟩ := h; subst e; exact rfl) | (obtain ⟨_, _, e, _⟩ := h; subst e; exact rfl) | (obtain ⟨_, _, _, e, _⟩ := h; subst e; exact rfl) | (obtain ⟨_, _, _, _, e, _⟩ := h; subst e; exact rfl) | (obtain ⟨_, _, _, _, _, e, _⟩ := h; subst e; exact rfl) | (obtain ⟨_, _, _, _, _, _, e, _⟩ := h; subst e; exact rfl) | (obtain ⟨_, _, _, _, _, _, _, e, _⟩ := h; subst e; exact rfl) | (obtain ⟨_, _, _, _, _, _, _, _, e, _⟩ := h; subst e; exact rfl) | (obtain ⟨_, _, _, _, _, _, _, _, _, e, _⟩ := h; subst e; exact rfl) | (obtain ⟨_, _, _, _, _, _, _, _, _, _, e, _⟩ := h; subst e; exact rfl) | (obtain ⟨_, _, _, _, _, _, _, _, _, _, _, e, _⟩ := h; subst e; exact rfl) | (obtain ⟨_, _, _, _, _, _, _, _, _, _, _, _, e, _⟩ := h; subst e; exact rfl))) (fun cdv A outer s H vs Q E hr h => ?_)
  
  refine ⟨_, PSs.nox (pss_cons (ps_ret (pe_and (pe_callB (k_isi (P := P) (w := w) (K := K) rfl rfl rfl) rfl T.b_isinstance boot_isinstance (pa_cons (pv 0) (pa_cons (pe_bltn (v := .ty "int") rfl T.b_int boot_int rfl) pa_nil))) (pe_one (pe_not (pe_callB (k_isi (P := P) (w := w) (K := K) rfl rfl rfl) rfl T.b_isinstance boot_isinstance (pa_cons (pv 0) (pa_cons (pe_bltn (v := .ty "bool") rfl T.b_bool boot_bool rfl) pa_nil))))))) pss_nil), ?_⟩
  refine read_of P w K h rfl fun rs k D hs hD hN => ?_
  obtain ⟨d, rfl, hk⟩ := hs
  rw [← isInst_int] at hk
  (refine ws_retS (by assumption) ?_; refine we_andV ?_; (first | refine we_cb ?_ | refine we_xlen ?_); refine wa_cons ?_; refine we_var rfl ?_; refine wa_cons ?_; refine we_c ?_; refine wa_nil ?_)
  refine ct_isiI ?_
  refine ⟨_, rfl, fun h => ?_, fun h => ?_⟩
  · rw [h, Bool.true_and] at hk
    (refine we_notV ?_; (first | refine we_cb ?_ | refine we_xlen ?_); refine wa_cons ?_; refine we_var rfl ?_; refine wa_cons ?_; refine we_c ?_; refine wa_nil ?_)
    refine ct_isiBl ?_
    exact ⟨_, rfl, hk⟩
  · rw [h, Bool.false_and] at hk
    exact hk
theorem inD_int {i a b : Int} : inD (.int i) a b = (decide (a ≤ i) && decide (i ≤ b)) := rfl
theorem inD_not {d : Dt} {a b : Int} (h : isIntD d = false) : inD d a b = false := by cases d <;> first | rfl | cases h
theorem ok_is_within {P : Program} {w : World} {K : PySem.W.Frag} {mg : Str → Option Value} {base : Heap} {f : Addr} {fd fd_is_integer : FuncData} (T : Txt K mg) (F : FunD K "is_within" "is_within" (defArgs s_is_within) (defBody s_is_within) (defScope s_is_within) [] [] f fd) (c_is_integer : Callee P w K mg base (He.ga K "is_integer") fd_is_integer ["thing"] 1 (spOf (S_is_integer2 P w K)))  :
    FnOk P w K mg base CX0 2 f fd ["thing", "least", "most"] (spOf (S_is_within2 P w K)) := by
  refine F.ok sc_is_within (len_of (by intro rs k h; first | (obtain ⟨e, _⟩ := h; subst e; exact rfl) | (obtain ⟨_, e, _⟩ := h; subst e; exact rfl) | (obtain ⟨_, _, e, _⟩ := h; subst e; exact rfl) | (obtain ⟨_, _, _, e, _⟩ := h; subst e; exact rfl) | (obtain ⟨_, _, _, _, e, _⟩ := h; subst e; exact rfl) | (obtain ⟨_, _, _, _, _, e, _⟩ := h; subst e; exact rfl) | (obtain ⟨_, _, _, _, _, _, e, _⟩ := h; subst e; exact rfl) | (obtain ⟨_, _, _, _, _, _, _, e, _⟩ := h; subst e; exact rfl) | (obtain ⟨_, _, _, _, _, _, _, _, e, _⟩ := h; subst e; exact rfl) | (obtain ⟨_, _, _, _, _, _, _, _, _, e, _⟩ := h; subst e; exact rfl) | (obtain ⟨_, _, _, _, _, _, _, _, _, _, e, _⟩ := h; subst e; exact rfl) | (obtain ⟨_, _, _, _, _, _, _, _, _, _, _, e, _⟩ := h; subst e; exact rfl) | (obtain ⟨_, _, _, _, _, _, _, _, _, _, _, _, e, _⟩ := h; subst e; exact rfl))) (fun cdv A outer s H vs Q E hr h => ?_)
  
  refine ⟨_, PSs.nox (pss_cons (ps_ret (pe_and (pe_call (c_is_integer.F.mono (by decide)) hr rfl T.g_is_integer c_is_integer.kp c_is_integer.b .nil pass0 (pa_cons (pv 0) pa_nil)) (pe_one (pe_chain op_le op_le (pv 1) (pv 0) (pv 2))))) pss_nil), ?_⟩
  refine read_of P w K h rfl fun rs k D hs hD hN => ?_
  obtain ⟨d, a, b, rfl, hk⟩ := hs
  (refine ws_retS (by assumption) ?_; refine we_andV ?_; refine we_call ?_; refine wa_cons ?_; refine we_var rfl ?_; refine wa_nil ?_)
  refine ⟨d, rfl, ?_⟩
  refine ⟨_, rfl, fun h => ?_, fun h => ?_⟩
  · cases d with
    | int i =>
      rw [inD_int] at hk
      have e : rDt P w K (.int i) = rInt i := rDt_int P w K i
      rw [e]
      (refine we_chain ?_; refine we_var rfl ?_; refine we_var rfl ?_; refine ot_I0 ?_; refine ⟨_, rfl, ?_⟩)
      refine ⟨fun h1 => ?_, fun h1 => ?_⟩
      · (refine we_var rfl ?_; refine ot_I0 ?_)
        rw [h1, Bool.true_and] at hk
        exact hk
      · rw [h1, Bool.false_and] at hk
        exact hk
    | _ => cases h
  · rw [inD_not h] at hk
    exact hk
def isPwD : Dt → Bool
  | .tup ps => decide (ps.length = 4) && ps.all (fun d => inD d 0 60)
  | _ => false
def isNzD : Dt → Bool
  | .int i => decide (i ≠ 0)
  | _ => false
def isTermD : Dt → Bool
  | .tup [p, c] => (isIntD c && isNzD c) && isPwD p
  | _ => false
def S_is_term2 (P : Program) (w : World) (K : PySem.W.Frag) : Spc := fun rs k => ∃ d, rs = [rDt P w K d] ∧ k (rBl (isTermD d))
theorem dVi (a b : Int) : decide (V.int a = V.int b) = decide (a = b) := by
  by_cases h : a = b
  · rw [h]; simp
  · have h' : ¬ V.int a = V.int b := fun z => h (by injection z)
    rw [decide_eq_false h, decide_eq_false h']
theorem getD_map2 {α : Type} {g : α → Rel} {L : List α} {d : Rel} {i : Nat} (hi : i < L.length) : (L.map g).getD i d = g L[i] := by
  rw [List.getD_eq_getElem?_getD, List.getElem?_map, List.getElem?_eq_getElem hi]
  rfl
theorem ok_is_term {P : Program} {w : World} {K : PySem.W.Frag} {mg : Str → Option Value} {base : Heap} {f : Addr} {fd fd_is_within fd_is_integer : FuncData} (T : Txt K mg) (F : FunD K "is_term" "is_term" (defArgs s_is_term) (defBody s_is_term) (defScope s_is_term) [] [] f fd) (c_is_within : Callee P w K mg base (He.ga K "is_within") fd_is_within ["thing", "least", "most"] 2 (spOf (S_is_within2 P w K))) (c_is_integer : Callee P w K mg base (He.ga K "is_integer") fd_is_integer ["thing"] 1 (spOf (S_is_integer2 P w K)))  :
    FnOk P w K mg base CX0 3 f fd ["thing"] (spOf (S_is_term2 P w K)) := by
  refine F.ok sc_is_term (len_of (by intro rs k h; first | (obtain ⟨e, _⟩ := h; subst e; exact rfl) | (obtain ⟨_, e, _⟩ := h; subst e; exact rfl) | (obtain ⟨_, _, e, _⟩ := h; subst e; exact rfl) | (obtain ⟨_, _, _, e, _⟩ := h; subst e; exact rfl) | (obtain ⟨_, _, _, _, e, _⟩ := h; subst e; exact rfl) | (obtain ⟨_, _, _, _, _, e, _⟩ := h; subst e; exact rfl) | (obtain ⟨_, _, _, _, _, _, e, _⟩ := h; subst e; exact rfl) | (obtain ⟨_, _, _, _, _, _, _, e, _⟩ := h; subst e; exact rfl) | (obtain ⟨_, _, _, _, _, _, _, _, e, _⟩ := h; subst e; exact rfl) | (obtain ⟨_, _, _, _, _, _, _, _, _, e, _⟩ := h; subst e; exact rfl) | (obtain ⟨_, _, _, _, _, _, _, _, _, _, e, _⟩ := h; subst e; exact rfl) | (obtain ⟨_, _, _, _, _, _, _, _, _, _, _, e, _⟩ := h; subst e; exact rfl) | (obtain ⟨_, _, _, _, _, _, _, _, _, _, _, _, e, _⟩ := h; subst e; exact rfl))) (fun cdv A outer s H vs Q E hr h => ?_)
  
  refine ⟨_, PSs.nox (pss_cons (ps_if (PW.pt (pw_or (pt_not (pt_val (pe_callB (k_isi (P := P) (w := w) (K := K) rfl rfl rfl) rfl T.b_isinstance boot_isinstance (pa_cons (pv 0) (pa_cons (pe_bltn (v := .ty "tuple") rfl T.b_tuple boot_tuple rfl) pa_nil))))) (pw_or (pt_cmpR op_ne (pe_callB (k_len (K := K) rfl) rfl T.b_len boot_len (pa_cons (pv 0) pa_nil)) pe_int (nomark _)) (pw_or (pt_not (pt_val (pe_call (c_is_integer.F.mono (by decide)) hr rfl T.g_is_integer c_is_integer.kp c_is_integer.b .nil pass0 (pa_cons (pe_ix (k_ixT (K := K) rfl) (pv 0) pe_int (fun _ _ => rfl)) pa_nil)))) (pw_or1 (pt_cmpR op_eq (pe_ix (k_ixT (K := K) rfl) (pv 0) pe_int (fun _ _ => rfl)) pe_int (nomark _))))))) (pss_cons (ps_ret pe_bl) pss_nil) pss_nil) (pss_cons (ps_if (PW.pt (pw_or (pt_not (pt_val (pe_callB (k_isi (P := P) (w := w) (K := K) rfl rfl rfl) rfl T.b_isinstance boot_isinstance (pa_cons (pe_ix (k_ixT (K := K) rfl) (pv 0) pe_int (fun _ _ => rfl)) (pa_cons (pe_bltn (v := .ty "tuple") rfl T.b_tuple boot_tuple rfl) pa_nil))))) (pw_or1 (pt_cmpR op_ne (pe_callB (k_len (K := K) rfl) rfl T.b_len boot_len (pa_cons (pe_ix (k_ixT (K := K) rfl) (pv 0) pe_int (fun _ _ => rfl)) pa_nil)) (pe_glob (v := .int 4) rfl T.c_UNKNOWNS.choose_spec ⟨_, rfl⟩) (nomark _))))) (pss_cons (ps_ret pe_bl) pss_nil) pss_nil) (pss_cons (ps_ret (pe_callB (k_all (K := K) rfl rfl) rfl T.b_all boot_all (pa_cons (pe_frz (pe_lc (own := [("power", 1)]) (g := gName 1) (tt := tYes) rfl sc_is_term.nd (q_tup (K := K) rfl (pe_ix (k_ixT (K := K) rfl) (pv 0) pe_int (fun _ _ => rfl))) (blkOk_by (own := [("power", 1)]) (N := ["thing", "power"]) (sc := defScope s_is_term) (by decide +kernel)) (fun _ _ _ _ _ => (pg_name (i := 1) sc_is_term.nd rfl (by first | exact Or.inl rfl | exact Or.inr rfl))) (fun _ _ _ _ _ => pts_nil) (fun _ _ _ _ _ => (pe_call (c_is_within.F.mono (by decide)) hr rfl T.g_is_within c_is_within.kp c_is_within.b .nil pass0 (pa_cons (pv 1) (pa_cons pe_int (pa_cons (pe_glob (v := .int 60) rfl T.c_MOST_POWER.choose_spec ⟨_, rfl⟩) pa_nil))))))) pa_nil))) pss_nil))), ?_⟩
  refine read_of P w K h rfl fun rs k D hs hD hN => ?_
  obtain ⟨d, rfl, hk⟩ := hs
  (refine ws_if ?_; refine wt_or ?_; refine wt_not ?_; refine wt_B ?_; (first | refine we_cb ?_ | refine we_xlen ?_); refine wa_cons ?_; refine we_var rfl ?_; refine wa_cons ?_; refine we_c ?_; refine wa_nil ?_)
  refine ct_isiTu ?_
  refine ⟨_, rfl, fun h => ?_, fun h => ?_⟩
  · have e : isTermD d = false := by cases d <;> first | rfl | cases h
    rw [e] at hk
    (refine ⟨fun _ => ?_, fun z => Bool.noConfusion (show true = false from by first | exact z | exact z.symm)⟩; refine ws_retS (by assumption) ?_; refine we_c ?_)
    exact hk
  cases d with
  | tup l =>
    rw [rDt_tup]
    (refine wt_or ?_; refine wt_test ?_; refine we_op ?_; (first | refine we_cb ?_ | refine we_xlen ?_); refine wa_cons ?_; refine we_var rfl ?_; refine wa_nil ?_; (first | refine ct_lenT ?_ | refine ct_lenL ?_); refine we_c ?_; refine ot_ne rfl ?_; refine ⟨_, rfl, ?_⟩)
    rw [List.length_map, dVi]
    refine ⟨fun h2 => ?_, fun h2 => ?_⟩
    · have hl : l.length ≠ 2 := fun z => by rw [z] at h2; cases h2
      have e : isTermD (.tup l) = false := by
        match l, hl with
        | [], _ => rfl
        | [_], _ => rfl
        | [_, _], hl => exact absurd rfl hl
        | _ :: _ :: _ :: _, _ => rfl
      rw [e] at hk
      (refine ⟨fun _ => ?_, fun z => Bool.noConfusion (show true = false from by first | exact z | exact z.symm)⟩; refine ws_retS (by assumption) ?_; refine we_c ?_)
      exact hk
    have hl : l.length = 2 := by
      by_cases z : l.length = 2
      · exact z
      · rw [decide_eq_false (by omega)] at h2
        cases h2
    obtain ⟨p, c, rfl⟩ : ∃ p c, l = [p, c] := by
      match l, hl with
      | [p, c], _ => exact ⟨p, c, rfl⟩
    (refine wt_or ?_; refine wt_not ?_; refine wt_B ?_; refine we_call ?_; refine wa_cons ?_; refine we_op ?_; refine we_var rfl ?_; refine we_c ?_)
    refine ot_ixT (r := rDt P w K c) rfl ?_
    (refine wa_nil ?_)
    refine ⟨c, rfl, ?_⟩
    refine ⟨_, rfl, fun h3 => ?_, fun h3 => ?_⟩
    · have e : isTermD (.tup [p, c]) = false := by
        show ((isIntD c && _) && _) = false
        rw [show isIntD c = false by simpa using h3]
        rfl
      rw [e] at hk
      (refine ⟨fun _ => ?_, fun z => Bool.noConfusion (show true = false from by first | exact z | exact z.symm)⟩; refine ws_retS (by assumption) ?_; refine we_c ?_)
      exact hk
    cases c with
    | int i =>
      (refine wt_test ?_; refine we_op ?_; refine we_op ?_; refine we_var rfl ?_; refine we_c ?_)
      refine ot_ixT (r := rInt i) ?_ ?_
      · show some (rDt P w K (.int i)) = _
        rw [rDt_int]
      (refine we_c ?_; refine ot_eq rfl ?_; refine ⟨_, rfl, ?_⟩)
      rw [dVi]
      refine ⟨fun h4 => ?_, fun h4 => ?_⟩
      · have e : isTermD (.tup [p, .int i]) = false := by
          show ((true && decide (i ≠ 0)) && _) = false
          rw [decide_eq_false (fun z => z (of_decide_eq_true h4))]
          rfl
        rw [e] at hk
        (refine ws_retS (by assumption) ?_; refine we_c ?_)
        exact hk
      have hi : decide (i ≠ 0) = true := decide_eq_true (of_decide_eq_false h4)
      have ek : isTermD (.tup [p, .int i]) = isPwD p := by
        show ((true && decide (i ≠ 0)) && _) = _
        rw [hi]
        rfl
      rw [ek] at hk
      ((first | exact ws_end (by assumption) (by assumption) | refine ws_thru ?_); refine ws_if ?_; refine wt_or ?_; refine wt_not ?_; refine wt_B ?_; (first | refine we_cb ?_ | refine we_xlen ?_); refine wa_cons ?_; refine we_op ?_; refine we_var rfl ?_; refine we_c ?_)
      refine ot_ixT (r := rDt P w K p) rfl ?_
      (refine wa_cons ?_; refine we_c ?_; refine wa_nil ?_)
      refine ct_isiTu ?_
      refine ⟨_, rfl, fun h5 => ?_, fun h5 => ?_⟩
      · have e : isPwD p = false := by cases p <;> first | rfl | cases h5
        rw [e] at hk
        (refine ⟨fun _ => ?_, fun z => Bool.noConfusion (show true = false from by first | exact z | exact z.symm)⟩; refine ws_retS (by assumption) ?_; refine we_c ?_)
        exact hk
      cases p with
      | tup ps =>
        (refine wt_test ?_; refine we_op ?_; (first | refine we_cb ?_ | refine we_xlen ?_); refine wa_cons ?_; refine we_op ?_; refine we_var rfl ?_; refine we_c ?_)
        refine ot_ixT (r := rTup K (ps.map (rDt P w K))) (by show some (rDt P w K (.tup ps)) = _; rw [rDt_tup]) ?_
        (refine wa_nil ?_; (first | refine ct_lenT ?_ | refine ct_lenL ?_); refine we_c ?_; refine ot_ne rfl ?_; refine ⟨_, rfl, ?_⟩)
        rw [List.length_map, dVi]
        refine ⟨fun h6 => ?_, fun h6 => ?_⟩
        · have hl : ¬ ps.length = 4 := fun z => by rw [z] at h6; cases h6
          rw [show isPwD (.tup ps) = false by show (decide (ps.length = 4) && _) = false; rw [decide_eq_false hl]; rfl] at hk
          (refine ws_retS (by assumption) ?_; refine we_c ?_)
          exact hk
        have hl : ps.length = 4 := by
          by_cases z : ps.length = 4
          · exact z
          · rw [decide_eq_false (by omega)] at h6
            cases h6
        ((first | exact ws_end (by assumption) (by assumption) | refine ws_thru ?_); refine ws_retS (by assumption) ?_; (first | refine we_cb ?_ | refine we_xlen ?_); refine wa_cons ?_; refine we_frzL ?_)
        refine wl_lcM ps (g := rDt P w K) (h := fun d => rBl (inD d 0 60)) ?_
        (refine wi_tup ?_; refine we_op ?_; refine we_var rfl ?_; refine we_c ?_)
        refine ot_ixT (r := rTup K (ps.map (rDt P w K))) (by show some (rDt P w K (.tup ps)) = _; rw [rDt_tup]) ?_
        refine ⟨ps.map (rDt P w K), rfl, by rw [List.length_map], fun i hi => getD_map2 hi, by rw [hl]; decide, fun x hx G st => ?_, ?_⟩
        · refine ⟨_, _, ?_, wg_name, ?_⟩
          · intro j hj; exact hj
          · (refine we_call ?_; refine wa_cons ?_; refine we_var rfl ?_; refine wa_cons ?_; refine we_c ?_; refine wa_cons ?_; refine we_c ?_; refine wa_nil ?_)
            refine ⟨x, 0, 60, rfl, ?_⟩
            rfl
        · (refine wa_nil ?_)
          refine ct_allE (ps.map fun d => inD d 0 60) (by rw [List.map_map]; rfl) ?_
          have e : (ps.map fun d => inD d 0 60).all id = isPwD (.tup ps) := by
            show _ = (decide (ps.length = 4) && ps.all (fun d => inD d 0 60))
            rw [decide_eq_true hl, Bool.true_and, List.all_map]
            rfl
          rw [e]
          exact hk
      | _ => cases h5
    | _ => cases h3
  | _ => cases h
end Lw
set_option Elab.async false
set_option linter.all false
set_option maxRecDepth 100000
set_option maxHeartbeats 2000000
namespace Lw
open PySem PySem.Spec PyProof.Rows L2 BX EX
def kyD : Dt → List Int
  | .tup [.tup ps, _] => ps.map fun d => match d with | .int i => i | _ => 0
  | _ => []
/-- the i-th one is no term, or not above the one ahead -/
def badAt (l : List Dt) (i : Nat) : Bool := !isTermD (l.getD i .non) || (decide (0 < i) && !HT.lexLt (kyD (l.getD (i - 1) .non)) (kyD (l.getD i .non)))
def wrongP : Dt → Option Int
  | .tup l => if l.length > 300 then some (-1) else ((List.range l.length).find? (badAt l)).map fun i => (i : Int)
  | _ => some (-1)
def S_Poly_initX (P : Program) (w : World) (K : PySem.W.Frag) : List Rel → List (Str × Rel) → Prop → (Addr → Option (Str × V) → Prop) → Prop := fun rs fs ok e => ∃ d, rs = [rDt P w K d] ∧ fs = [(fT, rDt P w K d)] ∧ (wrongP d = none → ok) ∧ ∀ i, wrongP d = Option.some i → e (He.ga K "BadPoly") (Option.some ("index", .int i))
theorem wrong_one {l : List Dt} (h : ¬ l.length > 300) {j : Nat} (hj : j < l.length) (hb : badAt l j = true) (hI : ∀ i, i < j → badAt l i = false) : wrongP (.tup l) = Option.some (j : Int) := by
  show (if l.length > 300 then _ else _) = _
  rw [if_neg h]
  have e : (List.range l.length).find? (badAt l) = Option.some j := by
    rw [List.find?_range_eq_some]
    exact ⟨hb, List.mem_range.mpr hj, fun i hi => by rw [hI i hi]; rfl⟩
  rw [e]
  rfl
theorem wrong_no {l : List Dt} (h : ¬ l.length > 300) (hI : ∀ i, i < l.length → badAt l i = false) : wrongP (.tup l) = none := by
  show (if l.length > 300 then _ else _) = _
  rw [if_neg h]
  have e : (List.range l.length).find? (badAt l) = none := by
    rw [List.find?_eq_none]
    intro i hi
    rw [hI i (List.mem_range.mp hi)]
    decide
  rw [e]
  rfl
/-- the powers of a term -/
theorem ints_of : ∀ (ps : List Dt), ps.all (fun d => inD d 0 60) = true → ps = (ps.map fun d => match d with | .int i => i | _ => 0).map Dt.int
  | [], _ => rfl
  | d :: ps, h => by
    rw [List.all_cons, Bool.and_eq_true] at h
    have ih := ints_of ps h.2
    rw [List.map_cons, List.map_cons, ← ih]
    cases d with
    | int i => rfl
    | _ => cases h.1
theorem term_shape {d : Dt} (h : isTermD d = true) : ∃ ps c, d = .tup [.tup ps, c] := by
  cases d with
  | tup l =>
    match l, h with
    | [p, c], h =>
      have h2 : isPwD p = true := (Bool.and_eq_true_iff.mp h).2
      cases p with
      | tup ps => exact ⟨ps, c, rfl⟩
      | _ => cases h2
  | _ => cases h
theorem key_dt {P : Program} {w : World} {K : PySem.W.Frag} {ps : List Dt} {c : Dt} (h3 : ps.all (fun d => inD d 0 60) = true) : rDt P w K (.tup ps) = rKey K (kyD (.tup [.tup ps, c])) := by
  rw [rDt_tup]
  have e : ps.map (rDt P w K) = (kyD (.tup [.tup ps, c])).map rInt := by
    have e := ints_of ps h3
    show _ = (ps.map fun d => match d with | .int i => i | _ => 0).map rInt
    conv => lhs; rw [e]
    rw [List.map_map]
    refine List.map_congr_left fun i _ => ?_
    exact rDt_int P w K i
  rw [e]
theorem term_key {P : Program} {w : World} {K : PySem.W.Frag} {d : Dt} (h : isTermD d = true) : ∃ c, rDt P w K d = rTup K [rKey K (kyD d), c] := by
  obtain ⟨ps, c, rfl⟩ := term_shape h
  have h2 : isPwD (.tup ps) = true := (Bool.and_eq_true_iff.mp h).2
  refine ⟨rDt P w K c, ?_⟩
  rw [rDt_tup]
  show rTup K [rDt P w K (.tup ps), rDt P w K c] = _
  rw [key_dt (c := c) (Bool.and_eq_true_iff.mp h2).2]
theorem ok_Poly_init {P : Program} {w : World} {K : PySem.W.Frag} {mg : Str → Option Value} {base : Heap} {f : Addr} {fd fd_is_term : FuncData} (T : Txt K mg) (F : FunD K "__init__" "Poly.__init__" (defArgs s_Poly_init) (defBody s_Poly_init) (defScope s_Poly_init) [] [] f fd) (c_is_term : Callee P w K mg base (He.ga K "is_term") fd_is_term ["thing"] 3 (spOf (S_is_term2 P w K))) {fI_BadPoly : Addr} {fd_BadPoly : FuncData} (o_BadPoly : OwnE P w K mg base (He.ga K "BadPoly") fI_BadPoly fd_BadPoly "index") (cl : Cls K (He.ga K "Poly")) (na : NoAttr K (He.ga K "Poly") fT) :
    FnOk P w K mg base (L2.CX P w) 4 f fd ["self", "terms"] (spMkX (He.ga K "Poly") (S_Poly_initX P w K)) := by
  refine F.ok sc_Poly_init (len_mkX (by intro rs fs ok e h; first | (obtain ⟨e, _⟩ := h; subst e; exact rfl) | (obtain ⟨_, e, _⟩ := h; subst e; exact rfl) | (obtain ⟨_, _, e, _⟩ := h; subst e; exact rfl) | (obtain ⟨_, _, _, e, _⟩ := h; subst e; exact rfl) | (obtain ⟨_, _, _, _, e, _⟩ := h; subst e; exact rfl) | (obtain ⟨_, _, _, _, _, e, _⟩ := h; subst e; exact rfl) | (obtain ⟨_, _, _, _, _, _, e, _⟩ := h; subst e; exact rfl) | (obtain ⟨_, _, _, _, _, _, _, e, _⟩ := h; subst e; exact rfl) | (obtain ⟨_, _, _, _, _, _, _, _, e, _⟩ := h; subst e; exact rfl) | (obtain ⟨_, _, _, _, _, _, _, _, _, e, _⟩ := h; subst e; exact rfl) | (obtain ⟨_, _, _, _, _, _, _, _, _, _, e, _⟩ := h; subst e; exact rfl) | (obtain ⟨_, _, _, _, _, _, _, _, _, _, _, e, _⟩ := h; subst e; exact rfl) | (obtain ⟨_, _, _, _, _, _, _, _, _, _, _, _, e, _⟩ := h; subst e; exact rfl))) (fun cdv A outer s H vs Q E hr h => ?_)
  
  refine ⟨_, (pss_cons (ps_if (PW.pt (pw_or (pt_not (pt_val (pe_callB (k_isi (P := P) (w := w) (K := K) rfl rfl rfl) rfl T.b_isinstance boot_isinstance (pa_cons (pv 1) (pa_cons (pe_bltn (v := .ty "tuple") rfl T.b_tuple boot_tuple rfl) pa_nil))))) (pw_or1 (pt_cmpR op_gt (pe_callB (k_len (K := K) rfl) rfl T.b_len boot_len (pa_cons (pv 1) pa_nil)) (pe_glob (v := .int 300) rfl T.c_MOST_TERMS.choose_spec ⟨_, rfl⟩) (nomark _))))) (pss_cons (ps_raise rfl (takes_of rfl rfl rfl rfl) (pmk_oex o_BadPoly.oex o_BadPoly.iC o_BadPoly.tI (o_BadPoly.F.mono (by decide)) hr o_BadPoly.b .nil pass0 rfl T.c_BadPoly (pa_cons (pe_un un_neg pe_int) pa_nil))) pss_nil) pss_nil) (pss_cons (ps_for (passes_of rfl) rfl (q_enumT (K := K) rfl rfl T.b_enumerate (pa_cons (pv 1) pa_nil)) (q_gtup (K := K) rfl rfl (pgs_cons (pg_name (i := 2) sc_Poly_init.nd rfl (by first | exact Or.inl rfl | exact Or.inr rfl)) (pgs_cons (pg_name (i := 3) sc_Poly_init.nd rfl (by first | exact Or.inl rfl | exact Or.inr rfl)) pgs_nil))) (pss_cons (ps_if (PW.pt (pw_or (pt_not (pt_val (pe_call (c_is_term.F.mono (by decide)) hr rfl T.g_is_term c_is_term.kp c_is_term.b .nil pass0 (pa_cons (pv 3) pa_nil)))) (pw_or1 (PW.pt (pw_and (pt_cmpR op_gt (pv 2) pe_int (nomark _)) (pw_and1 (pt_not (pt_cmpR (k_ltT (K := K) rfl hr.units0) (pe_ix (k_ixT (K := K) rfl) (pe_ix (k_ixT (K := K) rfl) (pv 1) (pe_op op_sub (pv 2) pe_int) (fun _ _ => rfl)) pe_int (fun _ _ => rfl)) (pe_ix (k_ixT (K := K) rfl) (pv 3) pe_int (fun _ _ => rfl)) (nomark _))))))))) (pss_cons (ps_raise rfl (takes_of rfl rfl rfl rfl) (pmk_oex o_BadPoly.oex o_BadPoly.iC o_BadPoly.tI (o_BadPoly.F.mono (by decide)) hr o_BadPoly.b .nil pass0 rfl T.c_BadPoly (pa_cons (pv 2) pa_nil))) pss_nil) pss_nil) pss_nil)) (pss_cons (q_sfld (K := K) rfl (pv 0) (pv 1) rfl) pss_nil))), ?_⟩
  refine mk_ofX P w K h rfl fun rs fs ok e D x dx hs hD hE => ?_
  obtain ⟨d, rfl, rfl, hok, he⟩ := hs
  (refine ws_if ?_; refine wt_or ?_; refine wt_not ?_; refine wt_B ?_; (first | refine we_cb ?_ | refine we_xlen ?_); refine wa_cons ?_; refine we_var rfl ?_; refine wa_cons ?_; refine we_c ?_; refine wa_nil ?_)
  refine ct_isiTu ?_
  refine ⟨_, rfl, fun h => ?_, fun h => ?_⟩
  · have e : wrongP d = Option.some (-1) := by cases d <;> first | rfl | cases h
    (refine ⟨fun _ => ?_, fun z => Bool.noConfusion (show true = false from by first | exact z | exact z.symm)⟩)
    refine ws_rzF hE ?_
    (refine we_un ?_; refine we_c ?_; refine ut_I ?_; refine ⟨_, rfl, ?_⟩)
    exact he _ e
  cases d with
  | tup l =>
    have er := rDt_tup P w K l
    rw [er]
    (refine wt_test ?_; refine we_op ?_; (first | refine we_cb ?_ | refine we_xlen ?_); refine wa_cons ?_; refine we_var rfl ?_; refine wa_nil ?_; (first | refine ct_lenT ?_ | refine ct_lenL ?_); refine we_c ?_; refine ot_I0 ?_; refine ⟨_, rfl, ?_⟩)
    refine ⟨fun h3 => ?_, fun h3 => ?_⟩
    · have hl : l.length > 300 := by
        have := of_decide_eq_true h3
        rw [List.length_map] at this
        omega
      have e : wrongP (.tup l) = Option.some (-1) := if_pos hl
      skip
      refine ws_rzF hE ?_
      (refine we_un ?_; refine we_c ?_; refine ut_I ?_; refine ⟨_, rfl, ?_⟩)
      exact he _ e
    have hl : ¬ l.length > 300 := by
      have := of_decide_eq_false h3
      rw [List.length_map] at this
      omega
    refine ws_thru ?_
    refine ws_forQ (fun j (_ : Unit) => ∀ i, i < j → badAt l i = false) () (fun _ => [.im (rC (.ref x)), .im (rTup K (l.map (rDt P w K))), .no, .no]) ?_
    (refine wi_enumT ?_; refine wa_cons ?_; refine we_var rfl ?_; refine wa_nil ?_; refine ⟨_, rfl, ?_⟩)
    refine ⟨by (repeat' (first | exact Weak.nil | apply Weak.eq | apply Weak.no)), fun i hi => absurd hi (Nat.not_lt_zero i), fun j hj u hI G st => ?_, fun u hI => ?_⟩
    · have hj : j < l.length := by simpa using hj
      have eg : (l.map (rDt P w K)).getD j (rC .non) = rDt P w K l[j] := getD_map2 hj
      have el : l.getD j .non = l[j] := by rw [List.getD_eq_getElem?_getD, List.getElem?_eq_getElem hj]; rfl
      have next : badAt l j = false → ∀ i, i < j + 1 → badAt l i = false := fun hb i hi => by
        rcases Nat.lt_succ_iff_lt_or_eq.mp hi with z | z
        · exact hI i z
        · rw [z]; exact hb
      refine ⟨_, _, wg_tup rfl (wgs_cons wg_name (wgs_cons wg_name wgs_nil)), ?_⟩
      rw [eg]
      (refine ws_if ?_; refine wt_or ?_; refine wt_not ?_; refine wt_B ?_; refine we_call ?_; refine wa_cons ?_; refine we_var rfl ?_; refine wa_nil ?_)
      refine ⟨l[j], rfl, ?_⟩
      refine ⟨_, rfl, fun h => ?_, fun h => ?_⟩
      · have hb : badAt l j = true := by
          unfold badAt
          rw [el, h]
          rfl
        (refine ⟨fun _ => ?_, fun z => Bool.noConfusion (show true = false from by first | exact z | exact z.symm)⟩)
        refine ws_rzF hE ?_
        (refine we_var rfl ?_; refine ⟨_, rfl, ?_⟩)
        exact he _ (wrong_one hl hj hb hI)
      have ht : isTermD l[j] = true := by simpa using h
      (refine wt_and ?_; refine wt_test ?_; refine we_op ?_; refine we_var rfl ?_; refine we_c ?_; refine ot_I0 ?_; refine ⟨_, rfl, ?_⟩)
      refine ⟨fun h0 => ?_, fun h0 => ?_⟩
      · have h0 : 0 < j := by have := of_decide_eq_true h0; omega
        have hj1 : j - 1 < l.length := by omega
        have el1 : l.getD (j - 1) .non = l[j - 1] := by rw [List.getD_eq_getElem?_getD, List.getElem?_eq_getElem hj1]; rfl
        have ht1 : isTermD l[j - 1] = true := by
          have := hI (j - 1) (by omega)
          unfold badAt at this
          rw [el1, Bool.or_eq_false_iff] at this
          simpa using this.1
        obtain ⟨c0, e0⟩ := term_key (P := P) (w := w) (K := K) ht
        obtain ⟨c1, e1⟩ := term_key (P := P) (w := w) (K := K) ht1
        (refine wt_not ?_; refine wt_test ?_; refine we_op ?_; refine we_op ?_; refine we_op ?_; refine we_var rfl ?_; refine we_op ?_; refine we_var rfl ?_; refine we_c ?_; refine ot_I0 ?_)
        refine ot_ixT (r := rTup K [rKey K (kyD l[j - 1]), c1]) ?_ ?_
        · have e : ((j : Int) - 1) = ((j - 1 : Nat) : Int) := by omega
          rw [e]
          refine atI_nat ?_
          rw [List.getElem?_map, List.getElem?_eq_getElem hj1, ← e1]
          rfl
        (refine we_c ?_)
        refine ot_ixT (r := rKey K (kyD l[j - 1])) rfl ?_
        (refine we_op ?_; refine we_var rfl ?_; refine we_c ?_)
        rw [e0]
        refine ot_ixT (r := rKey K (kyD l[j])) rfl ?_
        (refine ot_ltT ?_; refine ⟨_, rfl, ?_⟩)
        refine ⟨fun h5 => ?_, fun h5 => ?_⟩
        · have hb : badAt l j = true := by
            unfold badAt
            rw [el, el1, decide_eq_true h0, h5, Bool.true_and, Bool.or_true]
          skip
          refine ws_rzF hE ?_
          (refine we_var rfl ?_; refine ⟨_, rfl, ?_⟩)
          exact he _ (wrong_one hl hj hb hI)
        · have hb : badAt l j = false := by
            unfold badAt
            rw [el, el1, ht, h5, Bool.and_false]
            rfl
          ((first | exact ws_end (by assumption) (by assumption) | refine ws_thru ?_))
          exact fun σ H E => ⟨(), next hb, E.wk (by (repeat' (first | exact Weak.nil | apply Weak.eq | apply Weak.no)))⟩
      · have hb : badAt l j = false := by
          unfold badAt
          rw [el, ht]
          have : decide (0 < j) = false := decide_eq_false (by have := of_decide_eq_false h0; omega)
          rw [this]
          rfl
        (refine ⟨fun z => Bool.noConfusion (show true = false from by first | exact z | exact z.symm), fun _ => ?_⟩; (first | exact ws_end (by assumption) (by assumption) | refine ws_thru ?_))
        exact fun σ H E => ⟨(), next hb, E.wk (by (repeat' (first | exact Weak.nil | apply Weak.eq | apply Weak.no)))⟩
    · have hno := wrong_no hl fun i hi => hI i (by simpa using hi)
      refine ws_fldM rfl (hD (hok hno)) (fun _ h => h) cl na ?_ rfl
      (refine we_var rfl ?_)
      have nd := ndx_dt (P := P) (w := w) (K := K) (.tup l)
      rw [er] at nd
      exact ⟨nd, by rw [er]⟩
  | _ => cases h
end Lw
set_option Elab.async false
set_option linter.all false
set_option maxRecDepth 100000
set_option maxHeartbeats 1000000
namespace Lw
open PySem PySem.Spec PyProof.Rows L2 BX
/-- a class of polynomials -/
structure PolyC (K : PySem.W.Frag) (C : Addr) : Prop where
  cl : Cls K C
  na : NoAttr K C fT
  ha : PySem.W.findIn K (.ref C) "__class__" = some (some (.builtin "object.__class__"))
  hn : PySem.W.specialIn K (.builtin "object.__class__") "__get__" = some (some (.builtin "getset_descriptor.__get__"))
  htk : PySem.W.takesIn K (.builtin "object.__class__") = some true
  hm : PySem.W.mroIn K C (.type "object") = some true
  ki : PySem.W.kitOne K (.ref C) (.ref (CP K)) = some true
  eq : PySem.W.findIn K (.ref C) "__eq__" = some (some (.ref (He.ma K (CP K) "__eq__")))
  isf : PySem.W.isFn K (.ref (He.ma K (CP K) "__eq__")) = true
theorem PolyC.ty {B : Bd} {C : Addr} {fs : List (Str × Rel)} (h : PolyC B.K C) : HasTy B (rIns C fs) (.ref C) := ty_ins h.cl h.ha h.hn h.htk h.hm
theorem eqT_tms {X : Cx} {K : PySem.W.Frag} (hK : X.K = K) (ts : PT) : ∀ r ∈ ts.map (fun t => rTup K [rKey K t.1, rInt t.2]), EqR X 2 r := by
  subst hK
  intro r hr
  obtain ⟨t, _, rfl⟩ := List.mem_map.mp hr
  refine eqR_tup fun r hr => ?_
  rcases List.mem_cons.mp hr with rfl | hr
  · exact eqR_key
  · rw [List.mem_singleton.mp hr]
    exact eqR_int.mono' (by decide)
def S_Poly_eq (C : Addr) (ts : PT) (P : Program) (w : World) (K : PySem.W.Frag) : Spc := fun rs k => PolyC K C ∧ rs = [rPT K C ts, rPT K C ts] ∧ k (rBl true)
def S_poly_from (P : Program) (w : World) (K : PySem.W.Frag) : Spc := fun rs k => ∃ m : PT, rs = [rDI P w K m] ∧ (∀ e ∈ m, e.1 ≠ []) ∧ m.length ≤ sizeLine ∧ k (rPT K (CR K) (canon m))
theorem key_get {m : PT} {k : List Int} (h : k ∈ m.map (·.1)) : getM (mI m) k = some (rInt (cf m k)) := by
  rw [show getM (mI m) k = (getM m k).map rInt from getM_map rInt m k]
  have : (getM m k).isSome = true := by
    induction m with
    | nil => cases h
    | cons e m ih =>
      rw [getM_cons]
      by_cases c : e.1 = k
      · rw [if_pos c]; rfl
      · rw [if_neg c]
        rcases List.mem_cons.mp h with h | h
        · exact absurd h.symm c
        · exact ih h
  unfold cf
  cases e : getM m k with
  | none => rw [e] at this; cases this
  | some c => rfl
theorem dec_int (a b : Int) : decide (V.int a = V.int b) = decide (a = b) := by
  by_cases h : a = b
  · rw [h]; simp
  · have h' : ¬ V.int a = V.int b := fun z => h (by injection z)
    rw [decide_eq_false h, decide_eq_false h']
def S_constant (P : Program) (w : World) (K : PySem.W.Frag) : Spc := fun rs k => ∃ c : Int, rs = [rInt c] ∧ k (rPT K (CR K) (canon [([0, 0, 0, 0], c)]))
theorem mI_foldM (m : PT) : foldM (mI m) = mI (foldM m) := foldM_map rInt m
def pwOf (i : Nat) (n : Int) : List Int := (List.range 4).map fun j => if j = i then n else 0
def S_powers_of (P : Program) (w : World) (K : PySem.W.Frag) : Spc := fun rs k => ∃ (i : Nat) (n : Int), rs = [rInt (i : Int), rInt n] ∧ k (rKey K (pwOf i n))
def S_unknown_power (P : Program) (w : World) (K : PySem.W.Frag) : Spc := fun rs k => ∃ (i : Nat) (n : Int), rs = [rInt (i : Int), rInt n] ∧ k (rPT K (CR K) (canon [(pwOf i n, 1)]))
def Ne4 (ts : PT) : Prop := ∀ t ∈ ts, t.1.length = 4
def BdP (n : Nat) (ts : PT) : Prop := ∀ t ∈ ts, t.2.natAbs < 2 ^ n
def S_sum_with (P : Program) (w : World) (K : PySem.W.Frag) : Spc := fun rs k => ∃ (C1 C2 : Addr) (A B : PT) (s : Int) (n : Nat), rs = [rPT K C1 A, rPT K C2 B, rInt s] ∧ PolyC K C1 ∧ PolyC K C2 ∧ Ne4 A ∧ Ne4 B ∧ A.length + B.length ≤ 16777000 ∧ s.natAbs < 2 ∧ BdP n B ∧ 0 < n ∧ n ≤ 900000 ∧
  k (rPT K (CR K) (canon (sumP A B s)))
theorem gets (m : PT) (k : List Int) : (getM (mI m) k).getD (rInt 0) = rInt (cf m k) := by
  rw [show getM (mI m) k = (getM m k).map rInt from getM_map rInt m k]
  unfold cf
  cases getM m k <;> rfl
theorem putI (m : PT) (k : List Int) (c : Int) : putM (mI m) k (rInt c) = mI (putM m k c) := putM_map rInt m k c
theorem putM_keys {κ α : Type} [DecidableEq κ] {p : κ → Prop} {m : List (κ × α)} {k : κ} {a : α} (h : ∀ e ∈ m, p e.1) (hk : p k) : ∀ e ∈ putM m k a, p e.1 := by
  unfold putM
  split
  · intro e he
    obtain ⟨e', he', rfl⟩ := List.mem_map.mp he
    split
    · exact h e' he'
    · exact h e' he'
  · intro e he
    rcases List.mem_append.mp he with he | he
    · exact h e he
    · rw [List.mem_singleton.mp he]; exact hk
theorem foldl_keys {α : Type} {p : List Int → Prop} (L : List α) (f : PT → α → PT) (hf : ∀ m x, x ∈ L → (∀ e ∈ m, p e.1) → ∀ e ∈ f m x, p e.1) : ∀ m : PT, (∀ e ∈ m, p e.1) → ∀ e ∈ L.foldl f m, p e.1 := by
  induction L with
  | nil => intro m h; exact h
  | cons x L ih =>
    intro m h
    exact ih (fun m y hy => hf m y (List.mem_cons_of_mem _ hy)) (f m x) (hf m x (List.mem_cons_self ..) h)
theorem foldM_keys {p : List Int → Prop} {A : PT} (h : ∀ e ∈ A, p e.1) : ∀ e ∈ foldM A, p e.1 := foldl_keys A (fun acc e => putM acc e.1 e.2) (fun m x hx hm => putM_keys hm (h x hx)) [] (fun _ he => by cases he)
theorem sumP_keys {p : List Int → Prop} {A B : PT} {s : Int} (h : ∀ e ∈ A, p e.1) (h' : ∀ e ∈ B, p e.1) : ∀ e ∈ sumP A B s, p e.1 :=
  foldl_keys B (fun m t => putA m t.1 (s * t.2)) (fun m x hx hm => putM_keys hm (h' x hx)) _ (foldM_keys h)
end Lw
set_option Elab.async false
set_option linter.all false
set_option maxRecDepth 100000
set_option maxHeartbeats 1000000
namespace Lw
open PySem PySem.Spec PyProof.Rows L2 BX
def S_plus (P : Program) (w : World) (K : PySem.W.Frag) : Spc := fun rs k => ∃ (C1 C2 : Addr) (A B : PT) (n : Nat), rs = [rPT K C1 A, rPT K C2 B] ∧ PolyC K C1 ∧ PolyC K C2 ∧ Ne4 A ∧ Ne4 B ∧ A.length + B.length ≤ 16777000 ∧ BdP n B ∧ 0 < n ∧ n ≤ 900000 ∧
  k (rPT K (CR K) (canon (sumP A B 1)))
def S_minus (P : Program) (w : World) (K : PySem.W.Frag) : Spc := fun rs k => ∃ (C1 C2 : Addr) (A B : PT) (n : Nat), rs = [rPT K C1 A, rPT K C2 B] ∧ PolyC K C1 ∧ PolyC K C2 ∧ Ne4 A ∧ Ne4 B ∧ A.length + B.length ≤ 16777000 ∧ BdP n B ∧ 0 < n ∧ n ≤ 900000 ∧
  k (rPT K (CR K) (canon (sumP A B (-1))))
/-- keys of the product are few -/
def FitM (A B : PT) : Prop := ∀ m : PT, (m.map (·.1)).Nodup → (∀ e ∈ m, ∃ a ∈ A, ∃ b ∈ B, e.1 = add4 a.1 b.1) → m.length < sizeLine
def S_times (P : Program) (w : World) (K : PySem.W.Frag) : Spc := fun rs k => ∃ (C1 C2 : Addr) (A B : PT) (n : Nat), rs = [rPT K C1 A, rPT K C2 B] ∧ PolyC K C1 ∧ PolyC K C2 ∧ Ne4 A ∧ Ne4 B ∧ FitM A B ∧ BdP n A ∧ BdP n B ∧ 0 < n ∧ n ≤ 450000 ∧
  k (rPT K (CR K) (canon (mulP A B)))
theorem putM_nodup {κ α : Type} [DecidableEq κ] {m : List (κ × α)} {k : κ} {a : α} (h : (m.map (·.1)).Nodup) : ((putM m k a).map (·.1)).Nodup := by
  unfold putM
  split
  · rw [List.map_map]
    have e : ((fun x : κ × α => x.1) ∘ fun e : κ × α => if e.1 = k then (e.1, a) else e) = fun e => e.1 := by
      funext e
      show (if e.1 = k then (e.1, a) else e).1 = e.1
      split <;> rfl
    rw [e]
    exact h
  · rename_i c
    rw [List.map_append, List.nodup_append]
    refine ⟨h, by simp, fun x hx y hy => ?_⟩
    have hy' : y = k := by simpa using hy
    subst hy'
    intro z
    subst z
    apply c
    obtain ⟨e, he, rfl⟩ := List.mem_map.mp hx
    clear h c hx
    induction m with
    | nil => cases he
    | cons d m ih =>
      rw [getM_cons]
      by_cases q : d.1 = e.1
      · rw [if_pos q]; rfl
      · rw [if_neg q]
        rcases List.mem_cons.mp he with he | he
        · rw [he] at q; exact absurd rfl q
        · exact ih he
theorem foldl_inv {α σ : Type} {p : σ → Prop} (L : List α) (f : σ → α → σ) (hf : ∀ m x, x ∈ L → p m → p (f m x)) : ∀ m : σ, p m → p (L.foldl f m) := by
  induction L with
  | nil => intro m h; exact h
  | cons x L ih =>
    intro m h
    exact ih (fun m y hy => hf m y (List.mem_cons_of_mem _ hy)) (f m x) (hf m x (List.mem_cons_self ..) h)
/-- what stands in the table while a product is made -/
def MulI (A B m : PT) : Prop := (m.map (·.1)).Nodup ∧ ∀ e ∈ m, ∃ a ∈ A, ∃ b ∈ B, e.1 = add4 a.1 b.1
theorem mulI_put {A B m : PT} (h : MulI A B m) {a b : List Int × Int} (ha : a ∈ A) (hb : b ∈ B) (c : Int) : MulI A B (putA m (add4 a.1 b.1) c) :=
  ⟨putM_nodup h.1, putM_keys (p := fun k => ∃ a ∈ A, ∃ b ∈ B, k = add4 a.1 b.1) h.2 ⟨a, ha, b, hb, rfl⟩⟩
theorem mulI_row {A B m : PT} (h : MulI A B m) {a : List Int × Int} (ha : a ∈ A) (B' : PT) (hB : ∀ b ∈ B', b ∈ B) : MulI A B (mulRow a B' m) :=
  foldl_inv (p := MulI A B) B' (fun m b => putA m (add4 a.1 b.1) (a.2 * b.2)) (fun m b hb hm => mulI_put hm ha (hB b hb) _) m h
theorem mulI_all {A B : PT} (A' : PT) (hA : ∀ a ∈ A', a ∈ A) : MulI A B (A'.foldl (fun m a => mulRow a B m) []) :=
  foldl_inv (p := MulI A B) A' (fun m a => mulRow a B m) (fun m a ha hm => mulI_row hm (hA a ha) B fun _ h => h) [] ⟨List.nodup_nil, fun _ he => by cases he⟩
theorem getD_key {k : List Int} {i : Nat} (h : i < k.length) : atI (k.map rInt) (i : Int) = some (rInt (k.getD i 0)) := by
  refine atI_nat ?_
  rw [List.getElem?_map, List.getElem?_eq_getElem h, List.getD_eq_getElem?_getD, List.getElem?_eq_getElem h]
  rfl
end Lw
set_option Elab.async false
set_option linter.all false
set_option maxRecDepth 100000
set_option maxHeartbeats 1000000
namespace Lw
open PySem PySem.Spec PyProof.Rows L2 BX
theorem fit_of {b c : B4} {A B : PT} (hA : Bx b A) (hB : Bx c B) (h : (b.add c).vol < 16777216) : FitM A B := fun m nd hm => by
  have := box_few (B := b.add c) nd fun k hk => by
    obtain ⟨e, he, rfl⟩ := List.mem_map.mp hk
    obtain ⟨a, ha, b, hb, e4⟩ := hm e he
    rw [e4]
    exact (hA a ha).add (hB b hb)
  rw [List.length_map] at this
  rw [sizeLine_eq]
  omega
theorem bdP_of {n m : Nat} {A : PT} (h : l1 A ≤ n) (hn : n < 2 ^ m) : BdP m A := fun t ht => Nat.lt_of_le_of_lt (l1_mem ht) (Nat.lt_of_le_of_lt h hn)
theorem bx_ne {b : B4} {A : PT} (h : Bx b A) : Ne4 A := fun e he => (h e he).len
/-- what times is asked -/
theorem times_of {P : Program} {w : World} {K : PySem.W.Frag} {C1 C2 : Addr} {A B : PT} {b c : B4} {n m : Nat} {k : Rel → Prop} (h1 : PolyC K C1) (h2 : PolyC K C2) (hA : PB b n A) (hB : PB c m B) (hv : (b.add c).vol < 16777216) (hn : n < 2 ^ 450000) (hm : m < 2 ^ 450000)
    (hk : k (rPT K (CR K) (tm A B))) : S_times P w K [rPT K C1 A, rPT K C2 B] k :=
  ⟨C1, C2, A, B, 450000, rfl, h1, h2, bx_ne hA.bx, bx_ne hB.bx, fit_of hA.bx hB.bx hv, bdP_of hA.l hn, bdP_of hB.l hm, by decide, Nat.le_refl _, hk⟩
def S_power_of (P : Program) (w : World) (K : PySem.W.Frag) : Spc := fun rs k => ∃ (C : Addr) (B : PT) (n : Nat) (b : B4) (L : Nat), rs = [rPT K C B, rInt (n : Int)] ∧ PolyC K C ∧ PolyC K (CR K) ∧ PB b L B ∧ 0 < L ∧ (B4.mul n b).vol < 16777216 ∧ L ^ n < 2 ^ 450000 ∧
  k (rPT K (CR K) (pwL n one4 B n))
theorem canon_single {k : List Int} {c : Int} (h : c ≠ 0) : canon [(k, c)] = [(k, c)] := by
  unfold canon
  rw [List.map_cons, List.map_nil, List.mergeSort_singleton]
  have : canonF [(k, c)] k = some (k, c) := by
    unfold canonF cf
    rw [getM_cons, if_pos rfl]
    exact if_neg h
  simp [this]
theorem canon_one : canon [([0, 0, 0, 0], 1)] = one4 := canon_single (by decide)
theorem fdiv2 (m : Nat) : (m : Int).fdiv 2 = ((m / 2 : Nat) : Int) := by
  rw [Int.fdiv_eq_ediv_of_nonneg _ (by decide)]
  omega
end Lw
set_option Elab.async false
set_option linter.all false
set_option maxRecDepth 100000
set_option maxHeartbeats 1000000
namespace Lw
open PySem PySem.Spec PyProof.Rows L2 BX
def degL (ns : List Int) : Nat := ns.foldr (fun x m => max x.toNat m) 0
def degP (A : PT) (i : Nat) : Nat := degL (A.map fun t => t.1.getD i 0)
theorem degL_mem : ∀ {ns : List Int} {y : Int}, y ∈ ns → y.toNat ≤ degL ns
  | [], _, h => by cases h
  | x :: ns, y, h => by
    show _ ≤ max x.toNat (degL ns)
    rcases List.mem_cons.mp h with rfl | h
    · exact Nat.le_max_left ..
    · exact Nat.le_trans (degL_mem h) (Nat.le_max_right ..)
theorem degL_in : ∀ (ns : List Int), degL ns = 0 ∨ ∃ y ∈ ns, y.toNat = degL ns
  | [] => .inl rfl
  | x :: ns => by
    show max x.toNat (degL ns) = 0 ∨ _
    rcases Nat.le_total x.toNat (degL ns) with h | h
    · rcases degL_in ns with g | ⟨y, hy, e⟩
      · left; omega
      · right
        refine ⟨y, List.mem_cons_of_mem _ hy, ?_⟩
        show _ = max x.toNat (degL ns)
        omega
    · right
      refine ⟨x, List.mem_cons_self .., ?_⟩
      show _ = max x.toNat (degL ns)
      omega
theorem degL_max {ns : List Int} (h : ∀ y ∈ ns, 0 ≤ y) {m : Int} (hm : m ∈ (0 : Int) :: ns) (hq : ∀ y, y ∈ (0 : Int) :: ns → y ≤ m) : m = (degL ns : Int) := by
  have h0 : 0 ≤ m := hq 0 (List.mem_cons_self ..)
  rcases degL_in ns with g | ⟨y, hy, e⟩
  · rcases List.mem_cons.mp hm with z | z
    · omega
    · have := degL_mem z
      omega
  · have h1 := hq y (List.mem_cons_of_mem _ hy)
    have h2 := h y hy
    rcases List.mem_cons.mp hm with z | z
    · omega
    · have := degL_mem z
      omega
theorem In.nn {b : B4} {k : List Int} (h : In b k) (i : Nat) : 0 ≤ k.getD i 0 := by
  obtain ⟨x, y, z, u, rfl, _⟩ := h
  match i with
  | 0 => exact Int.natCast_nonneg x
  | 1 => exact Int.natCast_nonneg y
  | 2 => exact Int.natCast_nonneg z
  | 3 => exact Int.natCast_nonneg u
  | n + 4 => exact Int.le_refl 0
def S_degree_by (P : Program) (w : World) (K : PySem.W.Frag) : Spc := fun rs k => ∃ (C : Addr) (A : PT) (b : B4) (i : Nat), rs = [rPT K C A, rInt (i : Int)] ∧ PolyC K C ∧ Bx b A ∧ i < 4 ∧ A.length ≤ 16777000 ∧ k (rInt (degP A i))
def S_without (P : Program) (w : World) (K : PySem.W.Frag) : Spc := fun rs k => ∃ (p : List Int) (i : Nat), rs = [rKey K p, rInt (i : Int)] ∧ p.length = 4 ∧ i < 4 ∧ k (rKey K (p.set i 0))
theorem without_len {p : List Int} {i : Nat} (hp : p.length = 4) (hi : i < 4) : (cutR (List.map rInt p) none (some (i : Int))).length + ([rC (V.int 0)] : List Rel).length ≤ sizeLine := by
  match p, hp with
  | [a, b, c, d], _ =>
    match i, hi with
    | 0, _ => exact Nat.le_of_ble_eq_true rfl
    | 1, _ => exact Nat.le_of_ble_eq_true rfl
    | 2, _ => exact Nat.le_of_ble_eq_true rfl
    | 3, _ => exact Nat.le_of_ble_eq_true rfl
theorem without_len2 {p : List Int} {i : Nat} (hp : p.length = 4) (hi : i < 4) : (cutR (List.map rInt p) none (some (i : Int)) ++ [rC (V.int 0)]).length + (cutR (List.map rInt p) (some ((i : Int) + 1)) none).length ≤ sizeLine := by
  match p, hp with
  | [a, b, c, d], _ =>
    match i, hi with
    | 0, _ => exact Nat.le_of_ble_eq_true rfl
    | 1, _ => exact Nat.le_of_ble_eq_true rfl
    | 2, _ => exact Nat.le_of_ble_eq_true rfl
    | 3, _ => exact Nat.le_of_ble_eq_true rfl
theorem without_eq {K : PySem.W.Frag} {p : List Int} {i : Nat} (hp : p.length = 4) (hi : i < 4) : rTup K (cutR (List.map rInt p) none (some (i : Int)) ++ [rC (V.int 0)] ++ cutR (List.map rInt p) (some ((i : Int) + 1)) none) = rKey K (p.set i 0) := by
  match p, hp with
  | [a, b, c, d], _ =>
    match i, hi with
    | 0, _ => rfl
    | 1, _ => rfl
    | 2, _ => rfl
    | 3, _ => rfl
def putC (i : Nat) (kss : List PT) (t : List Int × Int) : List PT := kss.set (t.1.getD i 0).toNat (putM (kss.getD (t.1.getD i 0).toNat []) (t.1.set i 0) t.2)
def cntL (A : PT) (i : Nat) : List PT := (A.foldl (putC i) (List.replicate (degP A i + 1) [])).map canon
def S_counts_by (P : Program) (w : World) (K : PySem.W.Frag) : Spc := fun rs k => ∃ (C : Addr) (A : PT) (b : B4) (i : Nat), rs = [rPT K C A, rInt (i : Int)] ∧ PolyC K C ∧ Bx b A ∧ i < 4 ∧ A.length ≤ 16777000 ∧ degP A i ≤ 16777000 ∧ k (rLst ((cntL A i).map (rPT K (CR K))))
theorem putC_map (i : Nat) (s : List PT) (t : List Int × Int) : (s.map mI).set (t.1.getD i 0).toNat (putM ((s.map mI).getD (t.1.getD i 0).toNat []) (t.1.set i 0) (rInt t.2)) = (putC i s t).map mI := by
  unfold putC
  rw [List.map_set, ← putI]
  generalize (t.1.getD i 0).toNat = j
  congr 2
  rw [List.getD_eq_getElem?_getD, List.getD_eq_getElem?_getD, List.getElem?_map]
  cases s[j]? <;> rfl
/-- what stands in the list while the counts are sorted out -/
structure CI (n d : Nat) (s : List PT) : Prop where
  len : s.length = d
  el : ∀ m ∈ s, m.length ≤ n ∧ ∀ e ∈ m, e.1.length = 4
theorem CI.put {n d i : Nat} {s : List PT} (h : CI n d s) {t : List Int × Int} (ht : t.1.length = 4) : CI (n + 1) d (putC i s t) := by
  refine ⟨by unfold putC; rw [List.length_set]; exact h.len, fun m hm => ?_⟩
  have : m ∈ s ∨ m = putM (s.getD (t.1.getD i 0).toNat []) (t.1.set i 0) t.2 := List.mem_or_eq_of_mem_set hm
  rcases this with hm | rfl
  · exact ⟨Nat.le_succ_of_le (h.el m hm).1, (h.el m hm).2⟩
  · have old : (s.getD (t.1.getD i 0).toNat []).length ≤ n ∧ ∀ e ∈ s.getD (t.1.getD i 0).toNat [], e.1.length = 4 := by
      rw [List.getD_eq_getElem?_getD]
      cases e : s[(t.1.getD i 0).toNat]? with
      | none => exact ⟨Nat.zero_le _, fun _ h => by cases h⟩
      | some m => exact h.el m (List.mem_of_getElem? e)
    exact ⟨Nat.le_trans (putM_len _ _ _) (Nat.succ_le_succ old.1), put_key (p := fun k => k.length = 4) old.2 (by rw [List.length_set]; exact ht) _⟩
theorem CI.fold (i : Nat) {d : Nat} : ∀ (A : PT) {n : Nat} {s : List PT}, CI n d s → N4 A → CI (n + A.length) d (A.foldl (putC i) s)
  | [], _, _, h, _ => h
  | t :: A, n, s, h, g => by
    have := CI.fold i A (h.put (i := i) (g t (List.mem_cons_self ..))) fun e he => g e (List.mem_cons_of_mem _ he)
    rw [List.length_cons, show n + (A.length + 1) = n + 1 + A.length by omega]
    exact this
theorem CI.start (d : Nat) : CI 0 d (List.replicate d []) := ⟨List.length_replicate, fun m hm => by rw [List.eq_of_mem_replicate hm]; exact ⟨Nat.le_refl _, fun _ h => by cases h⟩⟩
theorem degP_mem {A : PT} {t : List Int × Int} (h : t ∈ A) (i : Nat) : (t.1.getD i 0).toNat ≤ degP A i := degL_mem (List.mem_map.mpr ⟨t, h, rfl⟩)
theorem nm7 (r1 r2 : Rel) : NoM [.im r1, .im r2, .no, .no, .no, .no, .no] := fun a t e => by
  match a, e with
  | 0, e => cases e; rfl
  | 1, e => cases e; rfl
  | 2, e => cases e; rfl
  | 3, e => cases e; rfl
  | 4, e => cases e; rfl
  | 5, e => cases e; rfl
  | 6, e => cases e; rfl
  | a + 7, e => exact nomatch e
theorem nm7' (r1 r2 r3 r4 : Rel) : NoM [.im r1, .im r2, .no, .im r3, .im r4, .no, .no] := fun a t e => by
  match a, e with
  | 0, e => cases e; rfl
  | 1, e => cases e; rfl
  | 2, e => cases e; rfl
  | 3, e => cases e; rfl
  | 4, e => cases e; rfl
  | 5, e => cases e; rfl
  | 6, e => cases e; rfl
  | a + 7, e => exact nomatch e
def leadP (A : PT) (i : Nat) : PT := (cntL A i).getD (degP A i) []
theorem cntL_len {A : PT} {b : B4} (h : Bx b A) (i : Nat) : (cntL A i).length = degP A i + 1 := by
  unfold cntL
  rw [List.length_map]
  exact (CI.fold i A (CI.start (degP A i + 1)) h.n4).len
def S_lead_by (P : Program) (w : World) (K : PySem.W.Frag) : Spc := fun rs k => ∃ (C : Addr) (A : PT) (b : B4) (i : Nat), rs = [rPT K C A, rInt (i : Int)] ∧ PolyC K C ∧ Bx b A ∧ i < 4 ∧ A.length ≤ 16777000 ∧ degP A i ≤ 16777000 ∧ k (rPT K (CR K) (leadP A i))
end Lw
set_option Elab.async false
set_option linter.all false
set_option maxRecDepth 100000
set_option maxHeartbeats 1000000
namespace Lw
open PySem PySem.Spec PyProof.Rows L2 BX
def B4.at (b : B4) : Nat → Nat
  | 0 => b.a
  | 1 => b.b
  | 2 => b.c
  | _ => b.d
def B4.set (b : B4) (i n : Nat) : B4 := match i with
  | 0 => ⟨n, b.b, b.c, b.d⟩
  | 1 => ⟨b.a, n, b.c, b.d⟩
  | 2 => ⟨b.a, b.b, n, b.d⟩
  | _ => ⟨b.a, b.b, b.c, n⟩
theorem in_at {b : B4} {k : List Int} : In b k ↔ k.length = 4 ∧ ∀ j, j < 4 → 0 ≤ k.getD j 0 ∧ (k.getD j 0).toNat ≤ b.at j := by
  constructor
  · rintro ⟨x, y, z, u, rfl, h1, h2, h3, h4⟩
    refine ⟨rfl, fun j hj => ?_⟩
    match j, hj with
    | 0, _ => exact ⟨Int.natCast_nonneg _, h1⟩
    | 1, _ => exact ⟨Int.natCast_nonneg _, h2⟩
    | 2, _ => exact ⟨Int.natCast_nonneg _, h3⟩
    | 3, _ => exact ⟨Int.natCast_nonneg _, h4⟩
  · rintro ⟨hl, h⟩
    match k, hl with
    | [x, y, z, u], _ =>
      have h0 : 0 ≤ x ∧ x.toNat ≤ b.a := h 0 (by decide)
      have h1 : 0 ≤ y ∧ y.toNat ≤ b.b := h 1 (by decide)
      have h2 : 0 ≤ z ∧ z.toNat ≤ b.c := h 2 (by decide)
      have h3 : 0 ≤ u ∧ u.toNat ≤ b.d := h 3 (by decide)
      exact ⟨x.toNat, y.toNat, z.toNat, u.toNat, by rw [Int.toNat_of_nonneg h0.1, Int.toNat_of_nonneg h1.1, Int.toNat_of_nonneg h2.1, Int.toNat_of_nonneg h3.1], h0.2, h1.2, h2.2, h3.2⟩
theorem le_at {b c : B4} (h : ∀ j, j < 4 → b.at j ≤ c.at j) : b.le c := ⟨h 0 (by decide), h 1 (by decide), h 2 (by decide), h 3 (by decide)⟩
theorem at_le {b c : B4} (h : b.le c) {j : Nat} (hj : j < 4) : b.at j ≤ c.at j := by
  match j, hj with
  | 0, _ => exact h.pa
  | 1, _ => exact h.pb
  | 2, _ => exact h.pc
  | 3, _ => exact h.pd
theorem at_add (b c : B4) (j : Nat) : (b.add c).at j = b.at j + c.at j := by
  match j with
  | 0 => rfl
  | 1 => rfl
  | 2 => rfl
  | n + 3 => rfl
theorem at_mul (n : Nat) (b : B4) (j : Nat) : (B4.mul n b).at j = n * b.at j := by
  match j with
  | 0 => rfl
  | 1 => rfl
  | 2 => rfl
  | n + 3 => rfl
theorem at_set (b : B4) (n : Nat) {i j : Nat} (hi : i < 4) (hj : j < 4) : (b.set i n).at j = if i = j then n else b.at j := by
  match i, j, hi, hj with
  | 0, 0, _, _ => rfl
  | 0, 1, _, _ => rfl
  | 0, 2, _, _ => rfl
  | 0, 3, _, _ => rfl
  | 1, 0, _, _ => rfl
  | 1, 1, _, _ => rfl
  | 1, 2, _, _ => rfl
  | 1, 3, _, _ => rfl
  | 2, 0, _, _ => rfl
  | 2, 1, _, _ => rfl
  | 2, 2, _, _ => rfl
  | 2, 3, _, _ => rfl
  | 3, 0, _, _ => rfl
  | 3, 1, _, _ => rfl
  | 3, 2, _, _ => rfl
  | 3, 3, _, _ => rfl
theorem getD_set {k : List Int} {i j : Nat} {n : Int} (hi : i < k.length) : (k.set i n).getD j 0 = if i = j then n else k.getD j 0 := by
  rw [List.getD_eq_getElem?_getD, List.getElem?_set]
  by_cases h : i = j
  · rw [if_pos h, if_pos h, if_pos (h ▸ hi)]
    rfl
  · rw [if_neg h, if_neg h, List.getD_eq_getElem?_getD]
theorem In.set {b : B4} {k : List Int} (h : In b k) {i n : Nat} (hi : i < 4) : In (b.set i n) (k.set i (n : Int)) := by
  have g := in_at.mp h
  refine in_at.mpr ⟨by rw [List.length_set]; exact g.1, fun j hj => ?_⟩
  rw [getD_set (by omega), at_set _ _ hi hj]
  split
  · omega
  · exact g.2 j hj
theorem pol_cons (t : List Int × Int) (A : PT) : pol (t :: A) = mon t.1 t.2 + pol A := rfl
theorem pol_nil : pol [] = 0 := Pol.sound fun k => by
  show (0 : Int) = sm [(M4.no, ((0 : Nat) : Int))] k
  rw [con_sm, con0]
/-- the terms of a power of an unknown, without it -/
def atE (i d : Nat) (t : List Int × Int) : Bool := (t.1.getD i 0).toNat == d
def grp (A : PT) (i d : Nat) : PT := (A.filter (atE i d)).map fun t => (t.1.set i 0, t.2)
def low (A : PT) (i : Nat) : PT := A.filter fun t => !atE i (degP A i) t
theorem key_set {k l : List Int} {i : Nat} (hk : k.length = 4) (hl : l.length = 4) (hi : i < 4) (e : k.getD i 0 = l.getD i 0) (h : k.set i 0 = l.set i 0) : k = l := by
  refine List.ext_getElem (hk.trans hl.symm) fun j h1 h2 => ?_
  have q : k.getD j 0 = l.getD j 0 := by
    by_cases c : i = j
    · rw [← c]; exact e
    · have z := congrArg (fun x : List Int => x.getD j 0) h
      simp only [getD_set (show i < k.length by omega), getD_set (show i < l.length by omega), if_neg c] at z
      exact z
  rw [List.getD_eq_getElem?_getD, List.getD_eq_getElem?_getD, List.getElem?_eq_getElem h1, List.getElem?_eq_getElem h2] at q
  exact q
theorem grp_nd {A : PT} {b : B4} (h : Bx b A) (nd : (A.map (·.1)).Nodup) {i : Nat} (hi : i < 4) (d : Nat) : ((grp A i d).map (·.1)).Nodup := by
  unfold grp
  rw [List.map_map]
  have nd' : A.Pairwise fun a b => a.1 ≠ b.1 := List.pairwise_map.mp nd
  refine List.pairwise_map.mpr ?_
  refine (nd'.filter _).imp_of_mem fun {x y} hx hy ne z => ne ?_
  have ex := h x (List.mem_filter.mp hx).1
  have ey := h y (List.mem_filter.mp hy).1
  have dx : (x.1.getD i 0).toNat = d := by simpa [atE] using (List.mem_filter.mp hx).2
  have dy : (y.1.getD i 0).toNat = d := by simpa [atE] using (List.mem_filter.mp hy).2
  have n1 := ex.nn i
  have n2 := ey.nn i
  exact key_set ex.len ey.len hi (by omega) z
theorem grp_bx {A : PT} {b : B4} (h : Bx b A) {i : Nat} (hi : i < 4) (d : Nat) : Bx (b.set i 0) (grp A i d) := fun e he => by
  obtain ⟨t, ht, rfl⟩ := List.mem_map.mp he
  exact (h t (List.mem_filter.mp ht).1).set (n := 0) hi
theorem l1_filter (A : PT) (p : List Int × Int → Bool) : l1 (A.filter p) ≤ l1 A := by
  induction A with
  | nil => exact Nat.le_refl _
  | cons t A ih =>
    rw [List.filter_cons, l1_cons]
    split
    · rw [l1_cons]; omega
    · omega
theorem l1_grp (A : PT) (i d : Nat) : l1 (grp A i d) ≤ l1 A := by
  have : l1 (grp A i d) = l1 (A.filter (atE i d)) := by
    unfold grp l1
    rw [List.map_map]
    rfl
  rw [this]
  exact l1_filter A _
def upP (i n : Nat) : PT := [(pwOf i (n : Int), 1)]
theorem mon_up {b : B4} {k : List Int} {i d : Nat} {c : Int} (h : In b k) (hi : i < 4) (e : (k.getD i 0).toNat = d) : mon (k.set i 0) c * mon (pwOf i (d : Int)) 1 = mon k c := by
  have : mon (k.set i 0) c * mon (pwOf i (d : Int)) 1 = Pol.mk [(M4.pl (nm (k.set i 0)) (nm (pwOf i (d : Int))), c * 1)] := rfl
  rw [this, Int.mul_one]
  have q : M4.pl (nm (k.set i 0)) (nm (pwOf i (d : Int))) = nm k := by
    obtain ⟨x, y, z, u, rfl, _⟩ := h
    match i, hi with
    | 0, _ => have : x = d := e; subst this; exact M4.eq (Int.zero_add _) (Int.add_zero _) (Int.add_zero _) (Int.add_zero _)
    | 1, _ => have : y = d := e; subst this; exact M4.eq (Int.add_zero _) (Int.zero_add _) (Int.add_zero _) (Int.add_zero _)
    | 2, _ => have : z = d := e; subst this; exact M4.eq (Int.add_zero _) (Int.add_zero _) (Int.zero_add _) (Int.add_zero _)
    | 3, _ => have : u = d := e; subst this; exact M4.eq (Int.add_zero _) (Int.add_zero _) (Int.add_zero _) (Int.zero_add _)
  rw [q]
  rfl
theorem pol_up (i n : Nat) : pol (upP i n) = mon (pwOf i (n : Int)) 1 := rfl
theorem pol_grp {A : PT} {b : B4} (h : Bx b A) {i : Nat} (hi : i < 4) (d : Nat) : pol (grp A i d) * pol (upP i d) = pol (A.filter (atE i d)) := by
  unfold grp
  induction A with
  | nil => 
    show pol [] * _ = pol []
    rw [pol_nil]
    grind
  | cons t A ih =>
    have ih := ih fun e he => h e (List.mem_cons_of_mem _ he)
    rw [List.filter_cons]
    by_cases c : atE i d t = true
    · rw [if_pos c, List.map_cons, pol_cons, pol_cons, ← ih]
      have := mon_up (c := t.2) (h t (List.mem_cons_self ..)) hi (by simpa [atE] using c : (t.1.getD i 0).toNat = d)
      rw [← this, pol_up]
      grind
    · rw [if_neg c]
      exact ih
theorem pol_split (A : PT) (p : List Int × Int → Bool) : pol A = pol (A.filter p) + pol (A.filter fun t => !p t) := by
  induction A with
  | nil => 
    show pol [] = pol [] + pol []
    rw [pol_nil]
    grind
  | cons t A ih =>
    rw [List.filter_cons, List.filter_cons, pol_cons, ih]
    cases p t
    · show _ = _ + pol (_ :: _)
      rw [pol_cons]
      grind
    · show _ = pol (_ :: _) + _
      rw [pol_cons]
      grind
/-- the list of the counts -/
theorem fold_grp {b : B4} {i d : Nat} (hi : i < 4) : ∀ (A A0 : PT) (s : List PT), s.length = d → (∀ j, j < d → s.getD j [] = grp A0 i j) → Bx b (A0 ++ A) → ((A0 ++ A).map (·.1)).Nodup → (∀ t ∈ A, (t.1.getD i 0).toNat < d) →
    ∀ j, j < d → (A.foldl (putC i) s).getD j [] = grp (A0 ++ A) i j
  | [], A0, s, _, h, _, _, _, j, hj => by rw [List.append_nil]; exact h j hj
  | t :: A, A0, s, hl, h, hb, nd, ht, j, hj => by
    have e : A0 ++ t :: A = (A0 ++ [t]) ++ A := by rw [List.append_assoc]; rfl
    rw [List.foldl_cons, e]
    rw [e] at hb nd
    refine fold_grp hi A (A0 ++ [t]) (putC i s t) (by unfold putC; rw [List.length_set]; exact hl) (fun j' hj' => ?_) hb nd (fun t' h' => ht t' (List.mem_cons_of_mem _ h')) j hj
    have hts := ht t (List.mem_cons_self ..)
    have g1 : grp (A0 ++ [t]) i j' = grp A0 i j' ++ grp [t] i j' := by unfold grp; rw [List.filter_append, List.map_append]
    rw [g1]
    unfold putC
    rw [List.getD_eq_getElem?_getD, List.getElem?_set]
    by_cases c : (t.1.getD i 0).toNat = j'
    · rw [if_pos c, if_pos (by omega)]
      show putM _ _ _ = _
      rw [c, h j' hj']
      have g2 : grp [t] i j' = [(t.1.set i 0, t.2)] := by
        unfold grp
        rw [List.filter_cons, if_pos (by simpa [atE] using c)]
        rfl
      rw [g2]
      have hn : getM (grp A0 i j') (t.1.set i 0) = none := getM_none.mpr fun hm => by
        have hb' : Bx b (A0 ++ [t]) := fun e he => hb e (List.mem_append_left _ he)
        have nd' : ((A0 ++ [t]).map (·.1)).Nodup := by
          rw [List.map_append] at nd
          exact (List.nodup_append.mp nd).1
        have := grp_nd hb' nd' hi j'
        rw [g1, g2, List.map_append] at this
        exact (List.nodup_append.mp this).2.2 _ hm _ (List.mem_singleton.mpr rfl) rfl
      unfold putM
      rw [hn]
      rfl
    · rw [if_neg c]
      have g2 : grp [t] i j' = [] := by
        unfold grp
        rw [List.filter_cons, if_neg (by simpa [atE] using c)]
        rfl
      rw [g2, List.append_nil, ← h j' hj', List.getD_eq_getElem?_getD]
theorem cnt_at {A : PT} {b : B4} (h : Bx b A) (nd : (A.map (·.1)).Nodup) {i : Nat} (hi : i < 4) {j : Nat} (hj : j ≤ degP A i) : (cntL A i).getD j [] = canon (grp A i j) := by
  have := fold_grp (d := degP A i + 1) hi A [] (List.replicate (degP A i + 1) []) List.length_replicate (fun j hj => by rw [List.getD_eq_getElem?_getD, List.getElem?_replicate, if_pos hj]; rfl) h nd (fun t ht => Nat.lt_succ_of_le (degP_mem ht i)) j (by omega)
  unfold cntL
  rw [List.getD_eq_getElem?_getD, List.getElem?_map]
  rw [List.getD_eq_getElem?_getD] at this
  have hl := (CI.fold i A (CI.start (degP A i + 1)) h.n4).len
  rw [List.getElem?_eq_getElem (by omega)] at this ⊢
  show canon _ = _
  exact congrArg canon this
theorem lead_eq {A : PT} {b : B4} (h : Bx b A) (nd : (A.map (·.1)).Nodup) {i : Nat} (hi : i < 4) : leadP A i = canon (grp A i (degP A i)) := cnt_at h nd hi (Nat.le_refl _)
theorem degP_le {A : PT} {n i : Nat} (h : ∀ t ∈ A, (t.1.getD i 0).toNat ≤ n) : degP A i ≤ n := by
  unfold degP
  rcases degL_in (A.map fun t => t.1.getD i 0) with g | ⟨y, hy, e⟩
  · omega
  · obtain ⟨t, ht, rfl⟩ := List.mem_map.mp hy
    have := h t ht
    omega
theorem degP_bx {A : PT} {b : B4} {n i : Nat} (hi : i < 4) (h : Bx (b.set i n) A) : degP A i ≤ n := degP_le fun t ht => by
  have := ((in_at.mp (h t ht)).2 i hi).2
  rw [at_set _ _ hi hi, if_pos rfl] at this
  exact this
theorem bx_set {A : PT} {b : B4} {n i : Nat} (hi : i < 4) (h : Bx b A) (g : ∀ t ∈ A, (t.1.getD i 0).toNat ≤ n) : Bx (b.set i n) A := fun t ht => by
  have q := in_at.mp (h t ht)
  refine in_at.mpr ⟨q.1, fun j hj => ⟨(q.2 j hj).1, ?_⟩⟩
  rw [at_set _ _ hi hj]
  split
  · rename_i c; subst c; exact g t ht
  · exact (q.2 j hj).2
theorem PB.tight {b : B4} {n i : Nat} {A : PT} (h : PB b n A) (hi : i < 4) : PB (b.set i (degP A i)) n A := ⟨h.can, bx_set hi h.bx fun t ht => degP_mem ht i, h.l⟩
theorem PB.lead {b : B4} {n i : Nat} {A : PT} (h : PB b n A) (hi : i < 4) : PB (b.set i 0) n (leadP A i) ∧ pol (leadP A i) * pol (upP i (degP A i)) + pol (low A i) = pol A := by
  have nd := grp_nd h.bx h.can.nd hi (degP A i)
  have hb := grp_bx h.bx hi (degP A i)
  have tb : Tb (grp A i (degP A i)) := ⟨nd, hb.n4⟩
  rw [lead_eq h.bx h.can.nd hi]
  refine ⟨⟨can_canon nd, hb.canon, Nat.le_trans (l1_canon nd) (Nat.le_trans (l1_grp A i _) h.l)⟩, ?_⟩
  rw [pol_canon tb, pol_grp h.bx hi]
  exact (pol_split A (atE i (degP A i))).symm
theorem PB.low {b : B4} {n i : Nat} {A : PT} (h : PB b n A) (hi : i < 4) (h0 : 0 < degP A i) : PB (b.set i (degP A i - 1)) n (low A i) := by
  refine ⟨⟨h.can.1.filter _, fun e he => h.can.2 e (List.mem_filter.mp he).1⟩, bx_set hi (fun t ht => h.bx t (List.mem_filter.mp ht).1) fun t ht => ?_, Nat.le_trans (l1_filter A _) h.l⟩
  have := degP_mem (List.mem_filter.mp ht).1 i
  have : ¬ (t.1.getD i 0).toNat = degP A i := by simpa [atE] using (List.mem_filter.mp ht).2
  omega
theorem pb_up {i : Nat} (hi : i < 4) (n : Nat) : PB ((⟨0, 0, 0, 0⟩ : B4).set i n) 1 (upP i n) := by
  refine ⟨⟨List.pairwise_singleton _ _, fun e he => by rw [List.mem_singleton.mp he]; exact (by decide : (1 : Int) ≠ 0)⟩, fun e he => ?_, by unfold upP l1; exact Nat.le_refl 1⟩
  rw [List.mem_singleton.mp he]
  match i, hi with
  | 0, _ => exact ⟨n, 0, 0, 0, rfl, Nat.le_refl _, Nat.le_refl _, Nat.le_refl _, Nat.le_refl _⟩
  | 1, _ => exact ⟨0, n, 0, 0, rfl, Nat.le_refl _, Nat.le_refl _, Nat.le_refl _, Nat.le_refl _⟩
  | 2, _ => exact ⟨0, 0, n, 0, rfl, Nat.le_refl _, Nat.le_refl _, Nat.le_refl _, Nat.le_refl _⟩
  | 3, _ => exact ⟨0, 0, 0, n, rfl, Nat.le_refl _, Nat.le_refl _, Nat.le_refl _, Nat.le_refl _⟩
theorem up_add {i : Nat} (hi : i < 4) (a b : Nat) : pol (upP i (a + b)) = pol (upP i a) * pol (upP i b) := by
  have : pol (upP i a) * pol (upP i b) = Pol.mk [(M4.pl (nm (pwOf i (a : Int))) (nm (pwOf i (b : Int))), 1)] := rfl
  rw [this]
  have q : nm (pwOf i ((a + b : Nat) : Int)) = M4.pl (nm (pwOf i (a : Int))) (nm (pwOf i (b : Int))) := by
    match i, hi with
    | 0, _ => exact M4.eq (Int.natCast_add a b) rfl rfl rfl
    | 1, _ => exact M4.eq rfl (Int.natCast_add a b) rfl rfl
    | 2, _ => exact M4.eq rfl rfl (Int.natCast_add a b) rfl
    | 3, _ => exact M4.eq rfl rfl rfl (Int.natCast_add a b)
  rw [pol_up, ← q]
  rfl
theorem con_neg : Pol.con (-1) = (-1 : Pol) := (Lean.Grind.Ring.intCast_neg (α := Pol) 1).trans (congrArg Neg.neg (Lean.Grind.Ring.intCast_one (α := Pol)))
theorem con_one : Pol.con 1 = (1 : Pol) := rfl
/-! ### division -/
def dvS (B r : PT) (i : Nat) : PT := tm (leadP r i) (upP i (degP r i - degP B i))
def dvQ (B q r : PT) (i : Nat) : PT := canon (sumP (tm (leadP B i) q) (dvS B r i) 1)
def dvR (B r : PT) (i : Nat) : PT := canon (sumP (tm (leadP B i) r) (tm (dvS B r i) B) (-1))
def dvL (B : PT) (i : Nat) : Nat → PT → PT → PT × PT × Nat
  | 0, q, r => (q, r, 0)
  | n + 1, q, r => if r ≠ [] ∧ degP B i ≤ degP r i then dvL B i n (dvQ B q r i) (dvR B r i) else (q, r, n + 1)
/-- the box after s steps -/
def bxs (bA bB : B4) (i s : Nat) : B4 := bA.add (B4.mul s (bB.set i 0))
theorem bxs_at (bA bB : B4) {i j : Nat} (s : Nat) (hi : i < 4) (hj : j < 4) : (bxs bA bB i s).at j = bA.at j + if i = j then 0 else s * bB.at j := by
  unfold bxs
  rw [at_add, at_mul, at_set _ _ hi hj]
  split <;> rfl
structure DvI (A B : PT) (bA bB : B4) (N L i s n : Nat) (q r : PT) : Prop where
  iq : PB (bxs bA bB i s) ((2 * L) ^ s * N) q
  ir : ∃ d, PB ((bxs bA bB i s).set i d) ((2 * L) ^ s * N) r ∧ d ≤ bA.at i ∧ d + 1 ≤ n + degP B i
  ie : pol (leadP B i) ^ s * pol A = pol q * pol B + pol r
/-- what is asked of both -/
structure DvA (A B : PT) (bA bB : B4) (N L i : Nat) : Prop where
  i4 : i < 4
  pa : PB bA N A
  pb : PB bB L B
  l0 : 0 < L
  n0 : 0 < N
  m0 : 0 < degP B i
theorem DvI.start {A B : PT} {bA bB : B4} {N L i : Nat} (h : DvA A B bA bB N L i) : DvI A B bA bB N L i 0 (degP A i + 1 - degP B i) [] A := by
  have hi := h.i4
  have bp : bA.le (bxs bA bB i 0) := le_at fun j hj => by rw [bxs_at _ _ _ hi hj]; omega
  have nil : PB bA 0 [] := ⟨⟨List.Pairwise.nil, fun _ h => (nomatch h)⟩, fun _ h => (nomatch h), Nat.le_refl 0⟩
  refine ⟨nil.mono bp (Nat.zero_le _), ⟨degP A i, (h.pa.tight hi).mono (le_at fun j hj => ?_) (by rw [Nat.pow_zero, Nat.one_mul]; exact Nat.le_refl _), ?_, by have := h.m0; omega⟩, ?_⟩
  · rw [at_set _ _ hi hj, at_set _ _ hi hj, bxs_at _ _ _ hi hj]
    split <;> omega
  · exact degP_le fun t ht => ((in_at.mp (h.pa.bx t ht)).2 i hi).2
  · rw [pol_nil]
    show Pol.pow _ 0 * _ = _
    show (1 : Pol) * _ = _
    grind
theorem deg_r {B : PT} {b : B4} {n i d : Nat} {r : PT} (h : PB (b.set i d) n r) (hi : i < 4) : degP r i ≤ d := degP_bx hi h.bx
theorem pow_s (L s N : Nat) : (2 * L) ^ (s + 1) * N = L * ((2 * L) ^ s * N) + L * ((2 * L) ^ s * N) := by
  rw [Nat.pow_succ, Nat.mul_right_comm, Nat.mul_comm, Nat.mul_assoc]
  omega
/-- what the products of a step are -/
structure DvB (B : PT) (bA bB : B4) (N L i s : Nat) (q r : PT) : Prop where
  f : PB (bB.set i 0) L (leadP B i)
  lr : PB ((bxs bA bB i s).set i 0) ((2 * L) ^ s * N) (leadP r i)
  up : PB ((⟨0, 0, 0, 0⟩ : B4).set i (degP r i - degP B i)) 1 (upP i (degP r i - degP B i))
  st : PB (((bxs bA bB i s).set i 0).add ((⟨0, 0, 0, 0⟩ : B4).set i (degP r i - degP B i))) ((2 * L) ^ s * N) (dvS B r i)
  fq : PB (bxs bA bB i (s + 1)) (L * ((2 * L) ^ s * N)) (tm (leadP B i) q)
  fr : PB (bxs bA bB i (s + 1)) (L * ((2 * L) ^ s * N)) (tm (leadP B i) r)
  sb : PB (bxs bA bB i (s + 1)) (L * ((2 * L) ^ s * N)) (tm (dvS B r i) B)
  b1 : ((bB.set i 0).add (bxs bA bB i s)).le (bxs bA bB i (s + 1))
  b2 : (((bxs bA bB i s).set i 0).add ((⟨0, 0, 0, 0⟩ : B4).set i (degP r i - degP B i))).le (bxs bA bB i s)
  b3 : ((((bxs bA bB i s).set i 0).add ((⟨0, 0, 0, 0⟩ : B4).set i (degP r i - degP B i))).add (bB.set i (degP B i))).le (bxs bA bB i (s + 1))
theorem DvI.bd {A B : PT} {bA bB : B4} {N L i s n : Nat} {q r : PT} (h : DvA A B bA bB N L i) (I : DvI A B bA bB N L i s n q r) (hd : degP B i ≤ degP r i) : DvB B bA bB N L i s q r := by
  have hi := h.i4
  obtain ⟨d, pr, hA, _⟩ := I.ir
  have hr := degP_bx hi pr.bx
  have prb : PB (bxs bA bB i s) ((2 * L) ^ s * N) r := pr.mono (le_at fun j hj => by
    rw [at_set _ _ hi hj, bxs_at _ _ _ hi hj]
    split
    · rename_i c; subst c; omega
    · omega) (Nat.le_refl _)
  have b1 : ((bB.set i 0).add (bxs bA bB i s)).le (bxs bA bB i (s + 1)) := le_at fun j hj => by
    rw [at_add, at_set _ _ hi hj, bxs_at _ _ _ hi hj, bxs_at _ _ _ hi hj]
    split
    · omega
    · rw [Nat.succ_mul]; omega
  have b2 : (((bxs bA bB i s).set i 0).add ((⟨0, 0, 0, 0⟩ : B4).set i (degP r i - degP B i))).le (bxs bA bB i s) := le_at fun j hj => by
    have z : (⟨0, 0, 0, 0⟩ : B4).at j = 0 := by
      match j, hj with
      | 0, _ => rfl
      | 1, _ => rfl
      | 2, _ => rfl
      | 3, _ => rfl
    rw [at_add, at_set _ _ hi hj, at_set _ _ hi hj, bxs_at _ _ _ hi hj, z]
    split
    · rename_i c; subst c; omega
    · omega
  have b3 : ((((bxs bA bB i s).set i 0).add ((⟨0, 0, 0, 0⟩ : B4).set i (degP r i - degP B i))).add (bB.set i (degP B i))).le (bxs bA bB i (s + 1)) := le_at fun j hj => by
    have z : (⟨0, 0, 0, 0⟩ : B4).at j = 0 := by
      match j, hj with
      | 0, _ => rfl
      | 1, _ => rfl
      | 2, _ => rfl
      | 3, _ => rfl
    rw [at_add, at_add, at_set _ _ hi hj, at_set _ _ hi hj, at_set _ _ hi hj, bxs_at _ _ _ hi hj, bxs_at _ _ _ hi hj, z]
    split
    · rename_i c; subst c; omega
    · rw [Nat.succ_mul]; omega
  have f := (h.pb.lead hi).1
  have lr : PB ((bxs bA bB i s).set i 0) ((2 * L) ^ s * N) (leadP r i) := (prb.lead hi).1
  have up := pb_up hi (degP r i - degP B i)
  have st : PB (((bxs bA bB i s).set i 0).add ((⟨0, 0, 0, 0⟩ : B4).set i (degP r i - degP B i))) ((2 * L) ^ s * N) (dvS B r i) := by
    have := (lr.mul up).1
    rw [Nat.mul_one] at this
    exact this
  exact ⟨f, lr, up, st, (f.mul I.iq).1.mono b1 (Nat.le_refl _), (f.mul prb).1.mono b1 (Nat.le_refl _), (st.mul (h.pb.tight hi)).1.mono b3 (by rw [Nat.mul_comm]; exact Nat.le_refl _), b1, b2, b3⟩
theorem DvI.step {A B : PT} {bA bB : B4} {N L i s n : Nat} {q r : PT} (h : DvA A B bA bB N L i) (I : DvI A B bA bB N L i s (n + 1) q r) (hd : degP B i ≤ degP r i) : DvI A B bA bB N L i (s + 1) n (dvQ B q r i) (dvR B r i) := by
  have hi := h.i4
  have m0 := h.m0
  have D := I.bd h hd
  obtain ⟨d, pr, hA, hn⟩ := I.ir
  have hr := degP_bx hi pr.bx
  have stb : PB (bxs bA bB i (s + 1)) (L * ((2 * L) ^ s * N)) (dvS B r i) := D.st.mono (D.b2.trans (le_at fun j hj => by
    rw [bxs_at _ _ _ hi hj, bxs_at _ _ _ hi hj]
    split
    · omega
    · rw [Nat.succ_mul]; omega)) (Nat.le_mul_of_pos_left _ h.l0)
  obtain ⟨q1, q2⟩ := D.fq.sum stb (s := 1) (by decide)
  obtain ⟨r1, r2⟩ := D.fr.sum D.sb (s := -1) (by decide)
  have efq : pol (tm (leadP B i) q) = pol (leadP B i) * pol q := (D.f.mul I.iq).2
  have efr : pol (tm (leadP B i) r) = pol (leadP B i) * pol r := (D.f.mul pr).2
  have esb : pol (tm (dvS B r i) B) = pol (dvS B r i) * pol B := (D.st.mul h.pb).2
  have est : pol (dvS B r i) = pol (leadP r i) * pol (upP i (degP r i - degP B i)) := (D.lr.mul D.up).2
  have hr0 : 0 < degP r i := by omega
  have rl := pr.low hi hr0
  have bl := h.pb.low hi m0
  have er := (pr.lead hi).2
  have eb := (h.pb.lead hi).2
  have z : ∀ j, j < 4 → (⟨0, 0, 0, 0⟩ : B4).at j = 0 := fun j hj => by
    match j, hj with
    | 0, _ => rfl
    | 1, _ => rfl
    | 2, _ => rfl
    | 3, _ => rfl
  have x1 : PB ((bxs bA bB i (s + 1)).set i (degP r i - 1)) (L * ((2 * L) ^ s * N)) (tm (leadP B i) (low r i)) := (D.f.mul rl).1.mono (le_at fun j hj => by
    rw [at_add, at_set _ _ hi hj, at_set _ _ hi hj, at_set _ _ hi hj, at_set _ _ hi hj, bxs_at _ _ _ hi hj, bxs_at _ _ _ hi hj]
    split
    · omega
    · rw [Nat.succ_mul]; omega) (Nat.le_refl _)
  have x2 : PB ((bxs bA bB i (s + 1)).set i (degP r i - 1)) (L * ((2 * L) ^ s * N)) (tm (dvS B r i) (low B i)) := (D.st.mul bl).1.mono (le_at fun j hj => by
    rw [at_add, at_add, at_set _ _ hi hj, at_set _ _ hi hj, at_set _ _ hi hj, at_set _ _ hi hj, bxs_at _ _ _ hi hj, bxs_at _ _ _ hi hj, z j hj]
    split
    · omega
    · rw [Nat.succ_mul]; omega) (by rw [Nat.mul_comm]; exact Nat.le_refl _)
  obtain ⟨y1, y2⟩ := x1.sum x2 (s := -1) (by decide)
  have e1 : pol (tm (leadP B i) (low r i)) = pol (leadP B i) * pol (low r i) := (D.f.mul rl).2
  have e2 : pol (tm (dvS B r i) (low B i)) = pol (dvS B r i) * pol (low B i) := (D.st.mul bl).2
  have eu : pol (upP i (degP r i)) = pol (upP i (degP r i - degP B i)) * pol (upP i (degP B i)) := by
    rw [← up_add hi]
    congr 2
    omega
  have same : dvR B r i = canon (sumP (tm (leadP B i) (low r i)) (tm (dvS B r i) (low B i)) (-1)) := by
    unfold dvR
    refine can_pol r1.can r1.bx.n4 y1.can y1.bx.n4 ?_
    rw [r2, y2, efr, esb, e1, e2, con_neg, ← er, ← eb, est, eu]
    grind
  have hNN : L * ((2 * L) ^ s * N) + L * ((2 * L) ^ s * N) = (2 * L) ^ (s + 1) * N := (pow_s L s N).symm
  refine ⟨q1.mono (B4.le.refl _) (Nat.le_of_eq hNN), ⟨degP r i - 1, ?_, by omega, by omega⟩, ?_⟩
  · rw [same]
    exact y1.mono (B4.le.refl _) (Nat.le_of_eq hNN)
  · have := I.ie
    have eq : pol (dvQ B q r i) = pol (leadP B i) * pol q + pol (dvS B r i) := by
      unfold dvQ
      rw [q2, efq, con_one]
      grind
    have er' : pol (dvR B r i) = pol (leadP B i) * pol r - pol (dvS B r i) * pol B := by
      unfold dvR
      rw [r2, efr, esb, con_neg]
      grind
    rw [eq, er']
    have ep : pol (leadP B i) ^ (s + 1) = pol (leadP B i) ^ s * pol (leadP B i) := Lean.Grind.Semiring.pow_succ _ _
    rw [ep]
    grind
theorem DvI.stop {A B : PT} {bA bB : B4} {N L i s : Nat} {q r : PT} (h : DvA A B bA bB N L i) (I : DvI A B bA bB N L i s 0 q r) : degP r i < degP B i := by
  obtain ⟨d, pr, _, hn⟩ := I.ir
  have := degP_bx h.i4 pr.bx
  omega
end Lw
set_option Elab.async false
set_option linter.all false
set_option maxRecDepth 100000
set_option maxHeartbeats 1000000
namespace Lw
open PySem PySem.Spec PyProof.Rows L2 BX
theorem ok_draw0 {P : Program} {w : World} {K : PySem.W.Frag} {mg : Str → Option Value} {base : Heap} {f : Addr} {fd : FuncData} (T : Txt K mg) (F : FunD K "_law_draw" "_law_draw" (defArgs s_L_draw) (defBody s_L_draw) (defScope s_L_draw) [] [] f fd) :
    FnOk P w K mg base CX0 1 f fd ["_law_hand_here", "_law_many"] (spDraw0 K) := by
  refine F.ok sc_L_draw (fun vs H Q E ⟨a, c, ns, many, t, g, s, u, H0, e, _⟩ => by subst e; rfl) (fun cdv A outer s H vs Q E hr h => ?_)
  refine ⟨_, PSs.nox
(pss_cons (ps_if (PW.pt (pw_and (pt_cmpR op_eq (pe_dget (hu_of hr) (pv 0) pe_str (fun _ _ => rfl)) pe_int (nomark _)) (pw_and1 (pt_cmpR op_lt (pe_dget (hu_of hr) (pv 0) pe_str (fun _ _ => rfl)) (pe_callB (k_len (K := K) rfl) rfl T.b_len boot_len (pa_cons (pe_dget (hu_of hr) (pv 0) pe_str (fun _ _ => rfl)) pa_nil)) (nomark _))))) (pss_cons (ps_set (i := 3) sc_L_draw.nd rfl (by first | exact Or.inl rfl | exact Or.inr rfl) (pe_ix (k_ixL (K := K) rfl) (pe_dget (hu_of hr) (pv 0) pe_str (fun _ _ => rfl)) (pe_dget (hu_of hr) (pv 0) pe_str (fun _ _ => rfl)) (fun _ _ => rfl))) (pss_cons (ps_dput (hu_of hr) (pv 0) pe_str (pe_op op_add (pe_dget (hu_of hr) (pv 0) pe_str (fun _ _ => rfl)) pe_int) rfl) (pss_cons (ps_dput (hu_of hr) (pv 0) pe_str (pe_op op_mod (pe_callTy k_int1 rfl T.b_int boot_int (pa_cons (pe_op op_add (pe_op op_add (pe_op op_mul (pe_dget (hu_of hr) (pv 0) pe_str (fun _ _ => rfl)) pe_int) (pv 3)) pe_int) pa_nil)) pe_int) rfl) (pss_cons (ps_if (pt_cmpR op_ge (pv 3) (pe_op op_pow pe_int pe_int) (nomark _)) (pss_cons (ps_dput (hu_of hr) (pv 0) pe_str (pv 3) rfl) pss_nil) pss_nil) pss_nil)))) pss_nil) (pss_cons (ps_if (pt_cmpR op_gt (pe_dget (hu_of hr) (pv 0) pe_str (fun _ _ => rfl)) pe_int (nomark _)) (pss_cons (ps_set (i := 4) sc_L_draw.nd rfl (by first | exact Or.inl rfl | exact Or.inr rfl) (pe_op op_mod (pe_callTy k_int1 rfl T.b_int boot_int (pa_cons (pe_dget (hu_of hr) (pv 0) pe_str (fun _ _ => rfl)) pa_nil)) (pv 1))) (pss_cons (ps_dput (hu_of hr) (pv 0) pe_str (pe_op op_fdivN (pe_dget (hu_of hr) (pv 0) pe_str (fun _ _ => rfl)) (pv 1)) rfl) (pss_cons (ps_ret (pv 4)) pss_nil))) pss_nil) (pss_cons (ps_dput (hu_of hr) (pv 0) pe_str (pe_op op_add (pe_dget (hu_of hr) (pv 0) pe_str (fun _ _ => rfl)) pe_int) rfl) (pss_cons (ps_set (i := 2) sc_L_draw.nd rfl (by first | exact Or.inl rfl | exact Or.inr rfl) (pe_op op_mod (pe_callTy k_int1 rfl T.b_int boot_int (pa_cons (pe_op op_mul (pe_callTy k_int1 rfl T.b_int boot_int (pa_cons (pe_op op_add (pe_op op_add (pe_dget (hu_of hr) (pv 0) pe_str (fun _ _ => rfl)) pe_int) (pe_op op_mul pe_int (pe_dget (hu_of hr) (pv 0) pe_str (fun _ _ => rfl)))) pa_nil)) pe_int) pa_nil)) pe_int)) (pss_cons (ps_set (i := 2) sc_L_draw.nd rfl (by first | exact Or.inl rfl | exact Or.inr rfl) (pe_op op_mod (pe_callTy k_int1 rfl T.b_int boot_int (pa_cons (pe_op op_mul (pv 2) (pe_op op_add (pe_op op_fdivN (pv 2) pe_int) pe_int)) pa_nil)) pe_int)) (pss_cons (ps_set (i := 2) sc_L_draw.nd rfl (by first | exact Or.inl rfl | exact Or.inr rfl) (pe_op op_mod (pe_callTy k_int1 rfl T.b_int boot_int (pa_cons (pe_op op_mul (pv 2) (pe_op op_add (pe_op op_fdivN (pv 2) pe_int) pe_int)) pa_nil)) pe_int)) (pss_cons (ps_ret (pe_op op_mod (pe_callTy k_int1 rfl T.b_int boot_int (pa_cons (pe_op op_fdivN (pv 2) pe_int) pa_nil)) (pv 1))) pss_nil)))))))
   , ?_⟩
  obtain ⟨a, c, ns, many, t, g, s, u, H0, rfl, rfl, hc, hm, hm2, ht, hq⟩ := h
  refine st_seqJ (fun σ H => ∃ t g s u x y z, 0 ≤ t ∧ σ = [some (.ref a), some (.int many), x, y, z] ∧ H = hH H0 a c t g s u) (fun nx' hn => ?_) fun σ H ⟨t, g, s, u, x, y, z, ht, e1, e2⟩ => ?_
  · refine tt_eq (ev_get (a := a) rfl (hH_at ..) rfl) ev_c ?_
    show if _ then _ else _
    split
    · refine tt_op0 (i := t) (j := (ns.length : Int)) (ev_get (a := a) rfl (hH_at ..) rfl) (fun Q q => ⟨_, rfl, a, .ref c, rfl, DGet.k (k := .inr "cells") (hH_at ..), c, _, rfl, .inl (hc t g s u), by rw [List.length_map]; exact q⟩) ?_
      show if _ then _ else _
      split
      · rename_i _ hlt
        have hlt := of_decide_eq_true hlt
        obtain ⟨n, rfl⟩ : ∃ n : Nat, t = n := ⟨t.toNat, (Int.toNat_of_nonneg ht).symm⟩
        have hn' : n < ns.length := by omega
        refine st_asg (i := ns[n]) (fun Q q => ⟨_, rfl, a, .ref c, rfl, DGet.k (k := .inr "cells") (hH_at ..), ev_get (a := a) rfl (hH_at ..) rfl _ ⟨c, _, _, _, rfl, rfl, hc n g s u, atI_nat (by rw [List.getElem?_map, List.getElem?_eq_getElem hn']; rfl), q⟩⟩) ?_
        refine st_at (ev_op0 (g := fun i j => i + j) (ev_at rfl) ev_c) rfl ?_
        refine st_se (ev_op (g := fun i j => i % j) (ev_int (ev_op0 (g := fun i j => i + j) (ev_op0 (g := fun i j => i + j) (ev_op (g := fun i j => i * j) (ev_se rfl) ev_c (cmulR (by decide) (by decide))) (ev_var rfl)) ev_c)) ev_c (by decide)) rfl ?_
        refine tt_op0 (g := fun i j => decide (j ≤ i)) (ev_var rfl) (ev_op (g := fun i j => i ^ j.toNat) ev_c ev_c (by unfold CPow; decide)) ?_
        show if _ then _ else _
        split
        · refine st_gr (ev_var rfl) rfl ?_
          exact hn _ _ ⟨_, _, _, _, _, _, _, by omega, rfl, rfl⟩
        · exact hn _ _ ⟨_, _, _, _, _, _, _, by omega, rfl, rfl⟩
      · exact hn _ _ ⟨_, _, _, _, _, _, _, ht, rfl, rfl⟩
    · exact hn _ _ ⟨_, _, _, _, _, _, _, ht, rfl, rfl⟩
  · subst e1 e2
    refine st_seqJ (fun σ H => ∃ t g s u x y z, 0 ≤ t ∧ σ = [some (.ref a), some (.int many), x, y, z] ∧ H = hH H0 a c t g s u) (fun nx' hn => ?_) fun σ H ⟨t, g, s, u, x, y, z, ht, e1, e2⟩ => ?_
    · refine tt_op0 (g := fun i j => decide (j < i)) (ev_gr rfl) ev_c ?_
      show if _ then _ else _
      split
      · refine st_asg (ev_op (g := fun i j => i % j) (ev_int (ev_gr rfl)) (ev_var rfl) hm) ?_
        refine st_gr (ev_op (g := fun i j => i.fdiv j) (ev_gr rfl) (ev_var rfl) ⟨by omega, by omega⟩) rfl ?_
        refine st_ret (ev_var rfl) ?_
        exact hq _ _ _ _ _ (Int.emod_nonneg _ (by omega)) (Int.emod_lt_of_pos _ hm) ht
      · exact hn _ _ ⟨_, _, _, _, _, _, _, ht, rfl, rfl⟩
    · subst e1 e2
      refine st_tu (ev_op0 (g := fun i j => i + j) (ev_tu rfl) ev_c) rfl ?_
      refine st_asg (ev_op (g := fun i j => i % j) (ev_int (ev_op (g := fun i j => i * j) (ev_int (ev_op0 (g := fun i j => i + j) (ev_op0 (g := fun i j => i + j) (ev_se rfl) ev_c) (ev_op (g := fun i j => i * j) ev_c (ev_tu rfl) (cmulL (by decide) (by decide))))) ev_c (cmulR (by decide) (by decide)))) ev_c (by decide)) ?_
      refine st_asg (ev_op (g := fun i j => i % j) (ev_int (ev_op (g := fun i j => i * j) (ev_var rfl) (ev_op0 (g := fun i j => i + j) (ev_op (g := fun i j => i.fdiv j) (ev_var rfl) ev_c ⟨by decide, by decide⟩) ev_c) (cmulS (by decide) (by decide) rfl))) ev_c (by decide)) ?_
      refine st_asg (ev_op (g := fun i j => i % j) (ev_int (ev_op (g := fun i j => i * j) (ev_var rfl) (ev_op0 (g := fun i j => i + j) (ev_op (g := fun i j => i.fdiv j) (ev_var rfl) ev_c ⟨by decide, by decide⟩) ev_c) (cmulS (by decide) (by decide) rfl))) ev_c (by decide)) ?_
      refine st_ret (ev_op (g := fun i j => i % j) (ev_int (ev_op (g := fun i j => i.fdiv j) (ev_var rfl) ev_c ⟨by decide, by decide⟩)) (ev_var rfl) hm) ?_
      exact hq _ _ _ _ _ (Int.emod_nonneg _ (by omega)) (Int.emod_lt_of_pos _ hm) ht
abbrev S_L_draw (P : Program) (w : World) (K : PySem.W.Frag) : Spc := S_draw P w
abbrev S_L_hand (P : Program) (w : World) (K : PySem.W.Frag) : Spc := S_hand P w K
theorem ok_L_draw {P : Program} {w : World} {K : PySem.W.Frag} {mg : Str → Option Value} {base : Heap} {f : Addr} {fd : FuncData} (T : Txt K mg) (F : FunD K "_law_draw" "_law_draw" (defArgs s_L_draw) (defBody s_L_draw) (defScope s_L_draw) [] [] f fd) :
    FnOk P w K mg base CX0 1 f fd ["_law_hand_here", "_law_many"] (spOf (S_L_draw P w K)) := draw_re (ok_draw0 T F)
theorem ok_hand0 {P : Program} {w : World} {K : PySem.W.Frag} {mg : Str → Option Value} {base : Heap} {f : Addr} {fd : FuncData} (T : Txt K mg) (F : FunD K "_law_hand" "_law_hand" (defArgs s_L_hand) (defBody s_L_hand) (defScope s_L_hand) [] [] f fd) :
    FnOk P w K mg base CX0 1 f fd ["_law_script"] (spHand0 K) := by
  refine F.ok sc_L_hand (fun vs H Q E ⟨ns, hal, _⟩ => (Paired.length hal).symm) (fun cdv A outer s H vs Q E hr h => ?_)
  refine ⟨_, PSs.nox
(pss_cons (ps_setLc (i := 1) (own := [("_law_cell", 2)]) (g := gName 2) (tt := tYes) rfl sc_L_hand.nd rfl rfl (sw_true rfl rfl rfl (by decide +kernel)) (q_list (K := K) rfl (pe_frz (pe_slice (k_slL (K := K) rfl) (pv 0) po_none (po_some pe_int)))) (blkOk_by (own := [("_law_cell", 2)]) (N := ["_law_script", "_law_cells", "_law_cell"]) (sc := defScope s_L_hand) (by decide +kernel)) (fun _ _ _ _ _ => (pg_name (i := 2) sc_L_hand.nd rfl (by first | exact Or.inl rfl | exact Or.inr rfl))) (fun _ _ _ _ _ => pts_nil) (fun _ _ _ _ _ => (pe_callB k_abs rfl T.b_abs boot_abs (pa_cons (pe_callTy k_int1 rfl T.b_int boot_int (pa_cons (pv 2) pa_nil)) pa_nil)))) (pss_frz 1 (pss_cons (ps_ret (pe_disp (pps_cons pe_str (pv 1) (pps_cons pe_str pe_int (pps_cons pe_str pe_int (pps_cons pe_str (pe_op op_add pe_int (pe_callB (k_len (K := K) rfl) rfl T.b_len boot_len (pa_cons (pv 1) pa_nil))) (pps_cons pe_str pe_int pps_nil))))) (by rfl) (by rfl) (fun z => by cases z) (by decide))) pss_nil)))
   , ?_⟩
  obtain ⟨ns, hal, hz, hq⟩ := h
  refine (?_ : WpS (bd P w K H) { nx := fun _ H' => Q .non H', rt := Q } (ctx0 _ [rScr K ns]) _) _ _ (env0 (B := bd P w K H) (fun _ => trivial) (n := 3) rfl hal)
  (refine ws_asgL ?_)
  refine wl_lcM (cutR ns none (some 63)) (g := rInt) (h := fun i => rInt (if i < 0 then -i else i)) ?_
  (refine wi_list ?_)
  refine we_frzL ?_
  refine wl_slS ?_
  (refine we_var rfl ?_; refine ⟨_, rfl, ?_⟩; refine wo_none ?_; refine wo_some ?_; refine we_c ?_; refine ⟨_, rfl, ?_⟩; refine ⟨_, rfl, ?_⟩)
  rw [cutR_map]
  refine ⟨by rw [List.length_map], fun i hi => getD_map hi, Nat.le_trans (cutR_len ..) hz, fun i hi G st => ⟨_, _, ?_, wg_name, ?_⟩, ?_⟩
  · intro j hj; exact hj
  · ((first | refine we_cb ?_ | refine we_xlen ?_); refine wa_cons ?_; (first | refine we_cb ?_ | refine we_xlen ?_); refine wa_cons ?_; refine we_var rfl ?_; refine wa_nil ?_; (first | refine ct_int ?_ | refine ct_intB ?_); refine wa_nil ?_; refine ct_abs ?_)
    rfl
  ((first | refine ws_frzX rfl ?_ | refine ws_frzL rfl ?_))
  refine fun σ H1 E1 => ?_
  obtain ⟨ov, h1, v, rfl, c, o, xs, rfl, hc, halc⟩ := E1.ty 1 _ rfl
  have eL : (cutR ns none (some 63)).map (fun i => rInt (if i < 0 then -i else i)) = ((cutR ns none (some 63)).map fun i : Int => if i < 0 then -i else i).map rInt := by rw [List.map_map]; rfl
  rw [eL] at halc
  rw [al_map_int halc] at hc
  have sm := E1.ex
  intro p hp
  have hne : c ≠ p := fun z => by rw [z, hp] at hc; cases hc
  have hc' : upd H1 p (.dK []) c = some (.frz o (.lst (((cutR ns none (some 63)).map fun i : Int => if i < 0 then -i else i).map V.int))) := by rw [upd_ne hne]; exact hc
  refine ⟨_, h1, ⟨_, h1, c, _, rfl, .inl (.inl (.inr ⟨o, hc'⟩)), 977, _, rfl, rfl, ?_⟩⟩
  refine ⟨upd_same, hkv c 0 0 (977 + _) 0, rfl, Nat.le_of_ble_eq_true rfl, ?_⟩
  have e : upd (upd H1 p (.dK [])) p (.dK (mergeK [] (hkv c 0 0 (977 + ((((cutR ns none (some 63)).map fun i : Int => if i < 0 then -i else i).map V.int).length : Int)) 0))) = hH H1 p c 0 0 (977 + ((((cutR ns none (some 63)).map fun i : Int => if i < 0 then -i else i).map V.int).length : Int)) 0 := upd_upd
  rw [e]
  exact hq p c o _ _ H1 sm hp hc
theorem ok_L_hand {P : Program} {w : World} {K : PySem.W.Frag} {mg : Str → Option Value} {base : Heap} {f : Addr} {fd : FuncData} (T : Txt K mg) (F : FunD K "_law_hand" "_law_hand" (defArgs s_L_hand) (defBody s_L_hand) (defScope s_L_hand) [] [] f fd) :
    FnOk P w K mg base CX0 1 f fd ["_law_script"] (spOf (S_L_hand P w K)) := hand_re (ok_hand0 T F)
end Lw
set_option Elab.async false
set_option linter.all false
set_option maxRecDepth 100000
set_option maxHeartbeats 1000000
namespace Lw
open PySem PySem.Spec PyProof.Rows L2 BX
def S_L_any (P : Program) (w : World) (K : PySem.W.Frag) : Spc := fun rs k => ∃ L : List Rel, rs = [rHand P w, rLst L] ∧ 0 < L.length ∧ L.length < 1000 ∧ ∀ r ∈ L, k r
theorem ok_L_any {P : Program} {w : World} {K : PySem.W.Frag} {mg : Str → Option Value} {base : Heap} {f : Addr} {fd fd_L_draw : FuncData} (T : Txt K mg) (F : FunD K "_law_any" "_law_any" (defArgs s_L_any) (defBody s_L_any) (defScope s_L_any) [] [] f fd) (c_L_draw : Callee P w K mg base (He.ga K "_law_draw") fd_L_draw ["_law_hand_here", "_law_many"] 1 (spOf (S_L_draw P w K)))  :
    FnOk P w K mg base CX0 2 f fd ["_law_hand_here", "_law_things"] (spOf (S_L_any P w K)) := by
  refine F.ok sc_L_any (len_of (by intro rs k h; first | (obtain ⟨e, _⟩ := h; subst e; exact rfl) | (obtain ⟨_, e, _⟩ := h; subst e; exact rfl) | (obtain ⟨_, _, e, _⟩ := h; subst e; exact rfl) | (obtain ⟨_, _, _, e, _⟩ := h; subst e; exact rfl) | (obtain ⟨_, _, _, _, e, _⟩ := h; subst e; exact rfl) | (obtain ⟨_, _, _, _, _, e, _⟩ := h; subst e; exact rfl) | (obtain ⟨_, _, _, _, _, _, e, _⟩ := h; subst e; exact rfl) | (obtain ⟨_, _, _, _, _, _, _, e, _⟩ := h; subst e; exact rfl) | (obtain ⟨_, _, _, _, _, _, _, _, e, _⟩ := h; subst e; exact rfl) | (obtain ⟨_, _, _, _, _, _, _, _, _, e, _⟩ := h; subst e; exact rfl) | (obtain ⟨_, _, _, _, _, _, _, _, _, _, e, _⟩ := h; subst e; exact rfl) | (obtain ⟨_, _, _, _, _, _, _, _, _, _, _, e, _⟩ := h; subst e; exact rfl) | (obtain ⟨_, _, _, _, _, _, _, _, _, _, _, _, e, _⟩ := h; subst e; exact rfl))) (fun cdv A outer s H vs Q E hr h => ?_)
  
  refine ⟨_, PSs.nox (pss_cons (ps_ret (pe_ix (k_ixL (K := K) rfl) (pv 1) (pe_call (c_L_draw.F.mono (by decide)) hr rfl T.g_L_draw c_L_draw.kp c_L_draw.b .nil pass0 (pa_cons (pv 0) (pa_cons (pe_callB (k_len (K := K) rfl) rfl T.b_len boot_len (pa_cons (pv 1) pa_nil)) pa_nil))) (fun _ _ => rfl))) pss_nil), ?_⟩
  refine read_of P w K h rfl fun rs k D hs hD hN => ?_
  obtain ⟨L, rfl, h0, h1, hk⟩ := hs
  (refine ws_retS (by assumption) ?_; refine we_op ?_; refine we_var rfl ?_; refine we_call ?_; refine wa_cons ?_; refine we_var rfl ?_; refine wa_cons ?_; (first | refine we_cb ?_ | refine we_xlen ?_); refine wa_cons ?_; refine we_var rfl ?_; refine wa_nil ?_; (first | refine ct_lenT ?_ | refine ct_lenL ?_); refine wa_nil ?_)
  refine ⟨(L.length : Int), rfl, by omega, by omega, fun d d0 d1 => ?_⟩
  obtain ⟨n, rfl⟩ : ∃ n : Nat, d = n := ⟨d.toNat, (Int.toNat_of_nonneg d0).symm⟩
  have hn : n < L.length := by omega
  exact ot_ixL (r := L[n]) (atI_nat (List.getElem?_eq_getElem hn)) (hk _ (List.getElem_mem hn))
def numP (n : Int) : PT := if n = 0 then [] else [([0, 0, 0, 0], n)]
def S_L_num (P : Program) (w : World) (K : PySem.W.Frag) : Spc := fun rs k => ∃ n : Int, rs = [rInt n] ∧ k (rDI P w K (numP n))
def S_L_var (P : Program) (w : World) (K : PySem.W.Frag) : Spc := fun rs k => ∃ i : Nat, rs = [rInt (i : Int)] ∧ k (rDI P w K (upP i 1))
theorem ok_L_var {P : Program} {w : World} {K : PySem.W.Frag} {mg : Str → Option Value} {base : Heap} {f : Addr} {fd : FuncData} (T : Txt K mg) (F : FunD K "_law_var" "_law_var" (defArgs s_L_var) (defBody s_L_var) (defScope s_L_var) [] [] f fd)   :
    FnOk P w K mg base CX0 1 f fd ["_law_k"] (spOf (S_L_var P w K)) := by
  refine F.ok sc_L_var (len_of (by intro rs k h; first | (obtain ⟨e, _⟩ := h; subst e; exact rfl) | (obtain ⟨_, e, _⟩ := h; subst e; exact rfl) | (obtain ⟨_, _, e, _⟩ := h; subst e; exact rfl) | (obtain ⟨_, _, _, e, _⟩ := h; subst e; exact rfl) | (obtain ⟨_, _, _, _, e, _⟩ := h; subst e; exact rfl) | (obtain ⟨_, _, _, _, _, e, _⟩ := h; subst e; exact rfl) | (obtain ⟨_, _, _, _, _, _, e, _⟩ := h; subst e; exact rfl) | (obtain ⟨_, _, _, _, _, _, _, e, _⟩ := h; subst e; exact rfl) | (obtain ⟨_, _, _, _, _, _, _, _, e, _⟩ := h; subst e; exact rfl) | (obtain ⟨_, _, _, _, _, _, _, _, _, e, _⟩ := h; subst e; exact rfl) | (obtain ⟨_, _, _, _, _, _, _, _, _, _, e, _⟩ := h; subst e; exact rfl) | (obtain ⟨_, _, _, _, _, _, _, _, _, _, _, e, _⟩ := h; subst e; exact rfl) | (obtain ⟨_, _, _, _, _, _, _, _, _, _, _, _, e, _⟩ := h; subst e; exact rfl))) (fun cdv A outer s H vs Q E hr h => ?_)
  
  refine ⟨_, PSs.nox (pss_cons (ps_ret (pe_frz (q_disp (P := P) (w := w) (K := K) rfl rfl rfl hr.units (pps_cons (pe_callTy (k_tupleOf (K := K) rfl) rfl T.b_tuple boot_tuple (pa_cons (pe_frz (pe_lc (own := [("_law_other", 1)]) (g := gName 1) (tt := tYes) rfl sc_L_var.nd (pi_range1 rfl T.b_range (pa_cons pe_int pa_nil)) (blkOk_by (own := [("_law_other", 1)]) (N := ["_law_k", "_law_other"]) (sc := defScope s_L_var) (by decide +kernel)) (fun _ _ _ _ _ => (pg_name (i := 1) sc_L_var.nd rfl (by first | exact Or.inl rfl | exact Or.inr rfl))) (fun _ _ _ _ _ => pts_nil) (fun _ _ _ _ _ => (pe_callTy k_int1 rfl T.b_int boot_int (pa_cons (pe_cmpR op_eq (pv 1) (pv 0) (nomark _)) pa_nil))))) pa_nil)) pe_int pps_nil) (by rfl) (by rfl) (fun z => by cases z) (by decide)))) pss_nil), ?_⟩
  refine read_of P w K h rfl fun rs k D hs hD hN => ?_
  obtain ⟨i, rfl, hk⟩ := hs
  (refine ws_retS (by assumption) ?_; (refine we_frzX ?_; refine wx_xdisp ?_); (first | refine wp_cons ?_ | refine wp_nil ?_); (first | refine we_cb ?_ | refine we_xlen ?_); refine wa_cons ?_; refine we_frzL ?_)
  refine wl_lcM (List.range 4) (g := fun j => rInt (j : Int)) (h := fun j => rInt (if j = i then 1 else 0)) ?_
  (refine wi_rng1 ?_; refine wa_cons ?_; refine we_c ?_; refine wa_nil ?_; refine ⟨_, rfl, ?_⟩)
  refine ⟨by decide, by decide, rfl, fun j hj => by rw [List.getElem_range], by decide, fun j hj G st => ?_, ?_⟩
  · refine ⟨_, _, ?_, wg_name, ?_⟩
    · intro j hj; exact hj
    · ((first | refine we_cb ?_ | refine we_xlen ?_); refine wa_cons ?_; refine we_op ?_; refine we_var rfl ?_; refine we_var rfl ?_; refine ot_eq rfl ?_; refine wa_nil ?_; (first | refine ct_int ?_ | refine ct_intB ?_))
      rw [dec_int, show decide ((j : Int) = (i : Int)) = decide (j = i) from by rw [decide_eq_decide]; omega]
      by_cases e : j = i
      · rw [if_pos e, if_pos (decide_eq_true e)]
      · rw [if_neg e, if_neg (by rw [decide_eq_false e]; decide)]
  · (refine wa_nil ?_; refine ct_tuple ?_)
    refine ⟨pwOf i 1, ?_, ?_⟩
    · unfold pwOf
      show _ = rTup K (((List.range 4).map _).map rInt)
      rw [List.map_map]
      rfl
    (refine we_c ?_; (first | refine wp_cons ?_ | refine wp_nil ?_); refine ⟨Nat.le_of_ble_eq_true rfl, ?_⟩)
    exact hk
theorem keyD {K : PySem.W.Frag} {L : PT} {i : Nat} (hi : i < L.length) : rKey K ((L.map ((fun x => x.1) ∘ fun e : List Int × Int => (e.1, rInt e.2))).getD i []) = rKey K L[i].1 := by
  rw [List.getD_eq_getElem?_getD, List.getElem?_map, List.getElem?_eq_getElem hi]
  rfl
theorem get_mem {m : PT} (nd : (m.map (·.1)).Nodup) {t : List Int × Int} (h : t ∈ m) : getM (mI m) t.1 = some (rInt t.2) := by
  rw [show getM (mI m) t.1 = (getM m t.1).map rInt from getM_map rInt m t.1, getM_mem nd h]
  rfl
theorem mI_keys (m : PT) : (mI m).map (·.1) = m.map (·.1) := by rw [List.map_map]; rfl
theorem nz_tb {m : PT} (h : Tb m) : Tb (nz m) := by
  have p := (nz_perm m).symm
  have c : Tb (canon m) := Tb.canon h
  exact ⟨(p.map _).nodup_iff.mp c.nd, fun e he => c.n4 e (p.mem_iff.mpr he)⟩
def S_L_plus (P : Program) (w : World) (K : PySem.W.Frag) : Spc := fun rs k => ∃ (A B : PT) (s : Int) (n : Nat), rs = [rDI P w K A, rDI P w K B, rInt s] ∧ Tb A ∧ Tb B ∧ A.length + B.length ≤ 16777000 ∧ s.natAbs < 8 ∧ BdP n B ∧ 0 < n ∧ n ≤ 900000 ∧ k (rDI P w K (nz (sumP A B s)))
theorem ok_L_plus {P : Program} {w : World} {K : PySem.W.Frag} {mg : Str → Option Value} {base : Heap} {f : Addr} {fd : FuncData} (T : Txt K mg) (F : FunD K "_law_plus" "_law_plus" (defArgs s_L_plus) (defBody s_L_plus) (defScope s_L_plus) [] [] f fd)   :
    FnOk P w K mg base CX0 1 f fd ["_law_one", "_law_other", "_law_by"] (spOf (S_L_plus P w K)) := by
  refine F.ok sc_L_plus (len_of (by intro rs k h; first | (obtain ⟨e, _⟩ := h; subst e; exact rfl) | (obtain ⟨_, e, _⟩ := h; subst e; exact rfl) | (obtain ⟨_, _, e, _⟩ := h; subst e; exact rfl) | (obtain ⟨_, _, _, e, _⟩ := h; subst e; exact rfl) | (obtain ⟨_, _, _, _, e, _⟩ := h; subst e; exact rfl) | (obtain ⟨_, _, _, _, _, e, _⟩ := h; subst e; exact rfl) | (obtain ⟨_, _, _, _, _, _, e, _⟩ := h; subst e; exact rfl) | (obtain ⟨_, _, _, _, _, _, _, e, _⟩ := h; subst e; exact rfl) | (obtain ⟨_, _, _, _, _, _, _, _, e, _⟩ := h; subst e; exact rfl) | (obtain ⟨_, _, _, _, _, _, _, _, _, e, _⟩ := h; subst e; exact rfl) | (obtain ⟨_, _, _, _, _, _, _, _, _, _, e, _⟩ := h; subst e; exact rfl) | (obtain ⟨_, _, _, _, _, _, _, _, _, _, _, e, _⟩ := h; subst e; exact rfl) | (obtain ⟨_, _, _, _, _, _, _, _, _, _, _, _, e, _⟩ := h; subst e; exact rfl))) (fun cdv A outer s H vs Q E hr h => ?_)
  
  refine ⟨_, PSs.nox (pss_cons (ps_set (i := 3) sc_L_plus.nd rfl (by first | exact Or.inl rfl | exact Or.inr rfl) (pe_callTy (k_xpairs (P := P) (w := w) (K := K) rfl rfl rfl rfl hr.units) rfl T.b_dict boot_dict (pa_cons (pe_frz (pe_callTy (k_xitems (P := P) (w := w) rfl rfl rfl) rfl T.b_list boot_list (pa_cons (q_items (P := P) (w := w) (K := K) rfl rfl rfl (pv 0)) pa_nil))) pa_nil))) (pss_cons (ps_for PassesOwn.never rfl (q_keys (P := P) (w := w) rfl rfl (pv 1)) (pg_name (i := 4) sc_L_plus.nd rfl (by first | exact Or.inl rfl | exact Or.inr rfl)) (pss_cons (q_put (P := P) (w := w) (K := K) rfl rfl rfl (hu_of hr) (pv 3) (pv 4) (pe_op op_add (q_get2 (P := P) (w := w) (K := K) rfl rfl rfl (hu_of hr) (pv 3) (pv 4) pe_int ⟨rfl, rfl, rfl, rfl⟩) (pe_op op_mulW (pv 2) (q_get (P := P) (w := w) (K := K) rfl rfl rfl (hu_of hr) (pv 1) (pv 4) (fun _ _ => rfl)))) rfl) pss_nil)) (pss_frz 3 (pss_cons (ps_ret (pe_frz (pe_callTy (k_xpairs (P := P) (w := w) (K := K) rfl rfl rfl rfl hr.units) rfl T.b_dict boot_dict (pa_cons (pe_frz (pe_lc (own := [("_law_powers", 4)]) (g := gName 4) rfl sc_L_plus.nd (q_keys (P := P) (w := w) rfl rfl (pv 3)) (blkOk_by (own := [("_law_powers", 4)]) (N := ["_law_one", "_law_other", "_law_by", "_law_found", "_law_powers"]) (sc := defScope s_L_plus) (by decide +kernel)) (fun _ _ _ _ _ => (pg_name (i := 4) sc_L_plus.nd rfl (by first | exact Or.inl rfl | exact Or.inr rfl))) (fun _ _ _ _ _ => (pts_one (pt_cmpR op_ne (q_get (P := P) (w := w) (K := K) rfl rfl rfl (hu_of hr) (pv 3) (pv 4) (fun _ _ => rfl)) pe_int (nomark _)))) (fun _ _ _ _ _ => (pe_tup (pa_cons (pv 4) (pa_cons (q_get (P := P) (w := w) (K := K) rfl rfl rfl (hu_of hr) (pv 3) (pv 4) (fun _ _ => rfl)) pa_nil)))))) pa_nil)))) pss_nil)))), ?_⟩
  refine read_of P w K h rfl fun rs k D hs hD hN => ?_
  obtain ⟨A', B', s', n, rfl, hA, hB, hz, hs1, hb, hn0, hn, hk⟩ := hs
  ((first | (refine ws_asgX ?_; refine wx_xpairs ?_) | refine ws_asg ?_); (first | (refine we_frzX ?_; refine wx_xpairs ?_) | (refine we_frzL ?_; first | refine wl_xsorted ?_ | refine wl_xitems ?_ | refine wl_listT ?_)); (first | refine wq_var rfl ?_ | refine wq_e ?_); refine we_var rfl ?_; refine ⟨_, rfl, ?_⟩; refine ⟨_, rfl, ?_⟩)
  rw [mI_foldM]
  refine ws_forF B' (g := fun t => rKey K t.1) (foldM A') (fun m t => putA m t.1 (s' * t.2)) (fun m => [.im (rDI P w K A'), .im (rDI P w K B'), .im (rInt s'), .mx (mI m), .no]) ?_
  (refine wi_xkeys ?_; refine we_var rfl ?_; refine ⟨_, rfl, ?_⟩)
  refine ⟨by rw [List.length_map], fun i hi => by rw [List.map_map]; exact keyD hi, by (repeat' (first | exact Weak.nil | apply Weak.eq | apply Weak.no)), fun i hi G st => ?_, ?_⟩
  · generalize hm : (B'.take i).foldl (fun m t => putA m t.1 (s' * t.2)) (foldM A') = m
    have hl : m.length < sizeLine := by
      have a := foldl_len (B'.take i) (fun m t => putA m t.1 (s' * t.2)) (fun m x => putM_len m x.1 _) (foldM A')
      have b := foldM_len A'
      rw [hm, List.length_take] at a
      rw [sizeLine_eq]
      omega
    refine ⟨_, _, wg_name, ?_⟩
    (refine ws_xput rfl ?_; refine we_op ?_; refine we_xget2 ?_; (first | refine wq_var rfl ?_ | refine wq_e ?_); refine we_var rfl ?_; refine ⟨_, rfl, ?_⟩; refine we_c ?_; refine we_op ?_; refine we_var rfl ?_; refine we_xget ?_; (first | refine wq_var rfl ?_ | refine wq_e ?_); refine we_var rfl ?_; refine ⟨_, rfl, ?_⟩; refine we_var rfl ?_)
    refine ⟨B'[i].1, _, rfl, get_mem hB.nd (List.getElem_mem hi), ?_⟩
    (refine ot_I ?_ ?_)
    · exact wide_mul (a := 3) (by omega) (hb _ (List.getElem_mem hi)) (by decide) hn0 (by omega)
    rw [gets]
    (refine ot_I0 ?_; refine we_var rfl ?_; refine ⟨_, rfl, ?_⟩)
    rw [putI]
    exact ⟨by rw [List.length_map]; exact hl, ws_nextW rfl (by (repeat' (first | exact Weak.nil | apply Weak.eq | apply Weak.no)))⟩
  · have tb : Tb (sumP A' B' s') := (sumP_tb hA hB.n4 s').1
    have hl : (sumP A' B' s').length ≤ sizeLine := by
      have := sumP_len A' B' s'
      rw [sizeLine_eq]
      omega
    show WpS _ _ [_, _, _, .mx (mI (sumP A' B' s')), _] _
    generalize sumP A' B' s' = m at tb hl hk
    ((first | refine ws_frzX rfl ?_ | refine ws_frzL rfl ?_); refine ws_retS (by assumption) ?_; (first | (refine we_frzX ?_; refine wx_xpairs ?_) | (refine we_frzL ?_; first | refine wl_xsorted ?_ | refine wl_xitems ?_ | refine wl_listT ?_)); refine we_frzL ?_)
    refine wl_lcF (m.map (·.1)) (g := rKey K) (f := canonF m) (h := fun t => rTup K [rKey K t.1, rInt t.2]) ?_
    (refine wi_xkeys ?_; refine we_var rfl ?_; refine ⟨_, rfl, ?_⟩)
    refine ⟨by rw [List.length_map, List.length_map], fun i hi => ?_, by rw [List.length_map]; exact hl, fun x hx G st => ?_, ?_⟩
    · show rKey K ((((mI m).map (·.1))).getD i []) = _
      rw [mI_keys]
      rw [List.getD_eq_getElem?_getD, List.getElem?_eq_getElem hi]
      rfl
    · refine ⟨_, _, ?_, wg_name, ?_⟩
      · intro j hj; exact hj
      · (refine wt_test ?_; refine we_op ?_; refine we_xget ?_; (first | refine wq_var rfl ?_ | refine wq_e ?_); refine we_var rfl ?_; refine ⟨_, rfl, ?_⟩; refine we_var rfl ?_)
        refine ⟨x, _, rfl, key_get hx, ?_⟩
        (refine we_c ?_; refine ot_ne rfl ?_; refine ⟨_, rfl, ?_⟩)
        rw [dec_int]
        refine ⟨fun hb => ?_, fun hb => ?_⟩
        · have hc : cf m x ≠ 0 := by simpa using hb
          refine ⟨(x, cf m x), by unfold canonF; rw [if_neg hc], ?_⟩
          (refine we_tup ?_; refine wa_cons ?_; refine we_var rfl ?_; refine wa_cons ?_; refine we_xget ?_; (first | refine wq_var rfl ?_ | refine wq_e ?_); refine we_var rfl ?_; refine ⟨_, rfl, ?_⟩; refine we_var rfl ?_)
          refine ⟨x, _, rfl, key_get hx, ?_⟩
          (refine wa_nil ?_; refine ⟨Nat.le_of_ble_eq_true rfl, ?_⟩)
          rfl
        · have hc : cf m x = 0 := by simpa using hb
          unfold canonF
          rw [if_pos hc]
    · skip
      refine ⟨mI (nz m), ?_, ?_⟩
      · show _ = rLst ((mI (nz m)).map (rEnt K))
        rw [List.map_map]
        rfl
      · rw [mI_foldM, foldM_tb (nz_tb tb)]
        exact hk
def S_L_mark (P : Program) (w : World) (K : PySem.W.Frag) : Spc := fun rs k => ∃ r : Rel, rs = [r] ∧ k (rLst [rStr "P", r])
theorem ok_L_mark {P : Program} {w : World} {K : PySem.W.Frag} {mg : Str → Option Value} {base : Heap} {f : Addr} {fd : FuncData} (T : Txt K mg) (F : FunD K "_law_mark" "_law_mark" (defArgs s_L_mark) (defBody s_L_mark) (defScope s_L_mark) [] [] f fd)   :
    FnOk P w K mg base CX0 1 f fd ["_law_parts"] (spOf (S_L_mark P w K)) := by
  refine F.ok sc_L_mark (len_of (by intro rs k h; first | (obtain ⟨e, _⟩ := h; subst e; exact rfl) | (obtain ⟨_, e, _⟩ := h; subst e; exact rfl) | (obtain ⟨_, _, e, _⟩ := h; subst e; exact rfl) | (obtain ⟨_, _, _, e, _⟩ := h; subst e; exact rfl) | (obtain ⟨_, _, _, _, e, _⟩ := h; subst e; exact rfl) | (obtain ⟨_, _, _, _, _, e, _⟩ := h; subst e; exact rfl) | (obtain ⟨_, _, _, _, _, _, e, _⟩ := h; subst e; exact rfl) | (obtain ⟨_, _, _, _, _, _, _, e, _⟩ := h; subst e; exact rfl) | (obtain ⟨_, _, _, _, _, _, _, _, e, _⟩ := h; subst e; exact rfl) | (obtain ⟨_, _, _, _, _, _, _, _, _, e, _⟩ := h; subst e; exact rfl) | (obtain ⟨_, _, _, _, _, _, _, _, _, _, e, _⟩ := h; subst e; exact rfl) | (obtain ⟨_, _, _, _, _, _, _, _, _, _, _, e, _⟩ := h; subst e; exact rfl) | (obtain ⟨_, _, _, _, _, _, _, _, _, _, _, _, e, _⟩ := h; subst e; exact rfl))) (fun cdv A outer s H vs Q E hr h => ?_)
  
  refine ⟨_, PSs.nox (pss_cons (ps_ret (pe_frz (pe_lst (pa_cons pe_str (pa_cons (pv 0) pa_nil))))) pss_nil), ?_⟩
  refine read_of P w K h rfl fun rs k D hs hD hN => ?_
  obtain ⟨r, rfl, hk⟩ := hs
  (refine ws_retS (by assumption) ?_; (refine we_frzL ?_; refine wl_lst ?_); refine wa_cons ?_; refine we_c ?_; refine wa_cons ?_; refine we_var rfl ?_; refine wa_nil ?_; refine ⟨Nat.le_of_ble_eq_true rfl, ?_⟩)
  exact hk
def S_L_times (P : Program) (w : World) (K : PySem.W.Frag) : Spc := fun rs k => ∃ (A B : PT) (n : Nat), rs = [rDI P w K A, rDI P w K B] ∧ Tb A ∧ Tb B ∧ FitM A B ∧ BdP n A ∧ BdP n B ∧ 0 < n ∧ n ≤ 450000 ∧ k (rDI P w K (nz (mulP A B)))
/-- what a product of the law is asked -/
theorem ltimes_of {P : Program} {w : World} {K : PySem.W.Frag} {A B : PT} {b c : B4} {n m : Nat} {k : Rel → Prop} (hA : LB b n A) (hB : LB c m B) (hv : (b.add c).vol < 16777216) (hn : n < 2 ^ 450000) (hm : m < 2 ^ 450000)
    (hk : k (rDI P w K (nz (mulP A B)))) : S_L_times P w K [rDI P w K A, rDI P w K B] k :=
  ⟨A, B, 450000, rfl, hA.tb, hB.tb, fit_of hA.bx hB.bx hv, bdP_of hA.l hn, bdP_of hB.l hm, by decide, Nat.le_refl _, hk⟩
def lpow (A : PT) : Nat → PT
  | 0 => numP 1
  | n + 1 => nz (mulP (lpow A n) A)
theorem lpow_ok {b : B4} {L : Nat} {A : PT} (h : LB b L A) : ∀ n, LB (B4.mul n b) (L ^ n) (lpow A n) ∧ pol (lpow A n) = pol A ^ n
  | 0 => ⟨PB.one.lb.mono ⟨Nat.zero_le _, Nat.zero_le _, Nat.zero_le _, Nat.zero_le _⟩ (Nat.le_refl _), rfl⟩
  | n + 1 => by
    obtain ⟨h1, h2⟩ := lpow_ok h n
    obtain ⟨h3, h4⟩ := h1.mul h
    refine ⟨h3.mono (le_at fun j hj => by rw [at_add, at_mul, at_mul, Nat.succ_mul]; exact Nat.le_refl _) (by rw [Nat.pow_succ]; exact Nat.le_refl _), ?_⟩
    show pol (nz _) = _
    rw [h4, h2]
    exact (Lean.Grind.Semiring.pow_succ _ _).symm
def S_L_power (P : Program) (w : World) (K : PySem.W.Frag) : Spc := fun rs k => ∃ (A : PT) (n : Nat) (b : B4) (L : Nat), rs = [rDI P w K A, rInt (n : Int)] ∧ LB b L A ∧ 0 < L ∧ (B4.mul n b).vol < 16777216 ∧ L ^ n < 2 ^ 450000 ∧ n < 1000 ∧ k (rDI P w K (lpow A n))
def S_L_is_marked (P : Program) (w : World) (K : PySem.W.Frag) : Spc := fun rs k => ∃ m : PT, rs = [rLst [rStr "P", rDI P w K m]] ∧ k (rBl true)
def S_L_degree (P : Program) (w : World) (K : PySem.W.Frag) : Spc := fun rs k => ∃ (A : PT) (b : B4) (i : Nat), rs = [rDI P w K A, rInt (i : Int)] ∧ Bx b A ∧ i < 4 ∧ A.length ≤ 16777000 ∧ k (rInt (degP A i))
def S_L_lead (P : Program) (w : World) (K : PySem.W.Frag) : Spc := fun rs k => ∃ (A : PT) (b : B4) (n i : Nat), rs = [rDI P w K A, rInt (i : Int)] ∧ LB b n A ∧ i < 4 ∧ A.length ≤ 16777000 ∧ k (rDI P w K (grp A i (degP A i)))
/-- a table as a polynomial is told -/
structure TsB (m : PT) : Prop where
  len : m.length ≤ 300
  b60 : Bx ⟨60, 60, 60, 60⟩ m
  nd : (m.map (·.1)).Nodup
  nz : ∀ e ∈ m, e.2 ≠ 0
theorem lex_lt : ∀ {a b : List Int}, a < b → HT.lexLt a b = true
  | [], [], h => absurd h (List.lt_irrefl _)
  | [], _ :: _, _ => rfl
  | _ :: _, [], h => absurd h (List.not_lt_nil _)
  | x :: xs, y :: ys, h => by
    rw [HT.lexLt_cons]
    rcases List.cons_lt_cons_iff.mp h with h | ⟨e, h⟩
    · rw [if_neg (by omega)]; exact decide_eq_true h
    · rw [if_pos e]; exact lex_lt h
theorem canon_nz {m : PT} (nd : (m.map (·.1)).Nodup) (nz : ∀ e ∈ m, e.2 ≠ 0) : canon m = ((m.map (·.1)).mergeSort keyLe).map fun x => (x, cf m x) := by
  unfold canon
  have : ∀ L : List (List Int), (∀ x ∈ L, x ∈ m.map (·.1)) → L.filterMap (canonF m) = L.map fun x => (x, cf m x) := by
    intro L
    induction L with
    | nil => intro _; rfl
    | cons x L ih =>
      intro hL
      obtain ⟨e, he, e1⟩ := List.mem_map.mp (hL x (List.mem_cons_self ..))
      have hc : cf m x ≠ 0 := by rw [← e1, cf_mem nd (c := e.2) he]; exact nz e he
      rw [List.filterMap_cons_some (b := (x, cf m x)) (by unfold canonF; rw [if_neg hc]), List.map_cons, ih fun y hy => hL y (List.mem_cons_of_mem _ hy)]
  exact this _ fun x hx => List.mem_mergeSort.mp hx
theorem canon_len (m : PT) : (canon m).length ≤ m.length := by
  unfold canon
  refine Nat.le_trans (List.length_filterMap_le ..) ?_
  rw [List.length_mergeSort, List.length_map]
  exact Nat.le_refl _
def S_L_packed (P : Program) (w : World) (K : PySem.W.Frag) : Spc := fun rs k => ∃ m : PT, rs = [rLst [rStr "P", rDI P w K m]] ∧ TsB m ∧ k (rPT K (CP K) (canon m))
def S_L_unpacked (P : Program) (w : World) (K : PySem.W.Frag) : Spc := fun rs k => ∃ (C : Addr) (A : PT), rs = [rPT K C A] ∧ PolyC K C ∧ Tb A ∧ A.length ≤ 16777000 ∧ k (rLst [rStr "P", rDI P w K A])
def mx4 (k : List Int) : Int := max (max (k.getD 0 0) (k.getD 1 0)) (max (k.getD 2 0) (k.getD 3 0))
theorem mx4_le {k : List Int} (h : k.length = 4) {j : Nat} (hj : j < 4) : k.getD j 0 ≤ mx4 k := by
  unfold mx4
  match j, hj with
  | 0, _ => omega
  | 1, _ => omega
  | 2, _ => omega
  | 3, _ => omega
theorem mx4_eq {k : List Int} (h : k.length = 4) {m : Int} (hm : m ∈ k) (hle : ∀ y, y ∈ k → y ≤ m) : m = mx4 k := by
  match k, h with
  | [a, b, c, d], _ =>
    have h1 := hle a (by simp)
    have h2 := hle b (by simp)
    have h3 := hle c (by simp)
    have h4 := hle d (by simp)
    show m = max (max a b) (max c d)
    simp only [List.mem_cons, List.not_mem_nil, or_false] at hm
    omega
def S_L_is_let (P : Program) (w : World) (K : PySem.W.Frag) : Spc := fun rs k => ∃ (A : PT), rs = [rDI P w K A] ∧ N4 A ∧ A.length ≤ 16777000 ∧ ∀ b : Bool, (b = true → ∀ e ∈ A, ∀ j, j < 4 → e.1.getD j 0 ≤ 60) → k (rBl b)
end Lw
set_option Elab.async false
set_option linter.all false
set_option maxRecDepth 100000
set_option maxHeartbeats 1000000
namespace Lw
open PySem PySem.Spec PyProof.Rows L2 BX
def bq (n : Nat) : B4 := ⟨n, n, n, n⟩
theorem lb_one {b : B4} {p : List Int} {c : Int} (h : In b p) (hc : c ≠ 0) : LB b c.natAbs [(p, c)] := ⟨List.pairwise_singleton _ _, fun e he => by rw [List.mem_singleton.mp he]; exact hc, fun e he => by rw [List.mem_singleton.mp he]; exact h, by rw [l1_cons]; exact Nat.le_refl _⟩
theorem in_box {n : Nat} {ys : List Int} (hp : Paired (fun (_ : Nat) (y : Int) => 0 ≤ y ∧ y ≤ (n : Int)) (List.range 4) ys) : In (bq n) ys := by
  rw [show List.range 4 = [0, 1, 2, 3] from rfl] at hp
  cases hp with
  | cons h0 t =>
    cases t with
    | cons h1 t =>
      cases t with
      | cons h2 t =>
        cases t with
        | cons h3 t =>
          cases t
          rename_i a b c d
          refine ⟨a.toNat, b.toNat, c.toNat, d.toNat, by rw [Int.toNat_of_nonneg h0.1, Int.toNat_of_nonneg h1.1, Int.toNat_of_nonneg h2.1, Int.toNat_of_nonneg h3.1], ?_, ?_, ?_, ?_⟩
          · show a.toNat ≤ n; omega
          · show b.toNat ≤ n; omega
          · show c.toNat ≤ n; omega
          · show d.toNat ≤ n; omega
def S_L_small (P : Program) (w : World) (K : PySem.W.Frag) : Spc := fun rs k => ∃ most : Nat, rs = [rHand P w, rInt 4, rInt (most : Int)] ∧ most ≤ 2 ∧ ∀ m, LB (bq most) 15 m → k (rDI P w K m)
theorem we_allP {B : Bd} {Γ : BX.Ctx} {te : TE} {k : Rel → Prop} {α : Type} (p : α → Prop) (f : α → Rel) (h : ∀ k' : Rel → Prop, (∀ x, p x → k' (f x)) → WpE B Γ te k') (q : ∀ x, p x → k (f x)) : WpE B Γ te k := h k q
theorem pb_num (n : Int) (b : B4) : LB b n.natAbs (numP n) := by
  unfold numP
  by_cases h : n = 0
  · rw [if_pos h]; exact LB.nil _ _
  · rw [if_neg h]
    exact lb_one ⟨0, 0, 0, 0, rfl, Nat.zero_le _, Nat.zero_le _, Nat.zero_le _, Nat.zero_le _⟩ h
/-- what a sum of the law is asked -/
theorem lplus_of {P : Program} {w : World} {K : PySem.W.Frag} {A B : PT} {b : B4} {n m : Nat} {s : Int} {k : Rel → Prop} (hA : LB b n A) (hB : LB b m B) (hv : b.vol ≤ 8388000) (hm : m < 2 ^ 450000) (hs : s.natAbs < 8)
    (hk : k (rDI P w K (nz (sumP A B s)))) : S_L_plus P w K [rDI P w K A, rDI P w K B, rInt s] k :=
  ⟨A, B, s, 450000, rfl, hA.tb, hB.tb, by have := hA.len; have := hB.len; omega, hs, bdP_of hB.l hm, by decide, by decide, hk⟩
theorem small_lt {n : Nat} (h : n < 2 ^ 220) : n < 2 ^ 450000 := Nat.lt_of_lt_of_le h (Nat.pow_le_pow_right (by decide) (by decide))
def S_L_other (P : Program) (w : World) (K : PySem.W.Frag) : Spc := fun rs k => ∃ i : Nat, rs = [rHand P w, rInt (i : Int)] ∧ i < 4 ∧ ∀ m, LB ((bq 1).set i 4) 30 m → k (rDI P w K m)
theorem nz_len (m : PT) : (nz m).length ≤ m.length := by
  unfold nz
  exact Nat.le_trans (List.length_filterMap_le ..) (by rw [List.length_map]; exact Nat.le_refl _)
def S_L_some (P : Program) (w : World) (K : PySem.W.Frag) : Spc := fun rs k => rs = [rHand P w, rInt 2] ∧ ∀ m, LB (bq 60) (2 ^ 200) m → m.length ≤ 40 → k (rDI P w K m)
end Lw
set_option Elab.async false
set_option linter.all false
set_option maxRecDepth 100000
set_option maxHeartbeats 4000000
/-! Z0: what k09 has in common with k01 and k04. -/
namespace Lw
open PySem PySem.Spec PyProof.Rows L2 BX EX
theorem abs_eq (a : Int) : (if a < 0 then -a else a) = ((a.natAbs : Nat) : Int) := by split <;> omega
def S_divisor_of (P : Program) (w : World) (K : PySem.W.Frag) : Spc := fun rs k => ∃ a b : Int, rs = [rInt a, rInt b] ∧ k (rInt ((a.natAbs.gcd b.natAbs : Nat) : Int))
theorem ok_divisor_of {P : Program} {w : World} {K : PySem.W.Frag} {mg : Str → Option Value} {base : Heap} {f : Addr} {fd : FuncData} (T : Txt K mg) (F : FunD K "divisor_of" "divisor_of" (defArgs s_divisor_of) (defBody s_divisor_of) (defScope s_divisor_of) [] [] f fd)   :
    FnOk P w K mg base CX0 1 f fd ["one", "other"] (spOf (S_divisor_of P w K)) := by
  refine F.ok sc_divisor_of (len_of (by intro rs k h; first | (obtain ⟨e, _⟩ := h; subst e; exact rfl) | (obtain ⟨_, e, _⟩ := h; subst e; exact rfl) | (obtain ⟨_, _, e, _⟩ := h; subst e; exact rfl) | (obtain ⟨_, _, _, e, _⟩ := h; subst e; exact rfl) | (obtain ⟨_, _, _, _, e, _⟩ := h; subst e; exact rfl) | (obtain ⟨_, _, _, _, _, e, _⟩ := h; subst e; exact rfl) | (obtain ⟨_, _, _, _, _, _, e, _⟩ := h; subst e; exact rfl) | (obtain ⟨_, _, _, _, _, _, _, e, _⟩ := h; subst e; exact rfl) | (obtain ⟨_, _, _, _, _, _, _, _, e, _⟩ := h; subst e; exact rfl) | (obtain ⟨_, _, _, _, _, _, _, _, _, e, _⟩ := h; subst e; exact rfl) | (obtain ⟨_, _, _, _, _, _, _, _, _, _, e, _⟩ := h; subst e; exact rfl) | (obtain ⟨_, _, _, _, _, _, _, _, _, _, _, e, _⟩ := h; subst e; exact rfl) | (obtain ⟨_, _, _, _, _, _, _, _, _, _, _, _, e, _⟩ := h; subst e; exact rfl))) (fun cdv A outer s H vs Q E hr h => ?_)
  
  refine ⟨_, PSs.nox (pss_cons (ps_par (i := 0) (j := 1) (by rfl) sc_divisor_of.nd rfl rfl (by decide) rfl rfl (pa_cons (pe_callB k_abs rfl T.b_abs boot_abs (pa_cons (pv 0) pa_nil)) (pa_cons (pe_callB k_abs rfl T.b_abs boot_abs (pa_cons (pv 1) pa_nil)) pa_nil)) (by rfl)) (pss_cons (ps_while PassesOwn.never (pt_cmpR op_gt (pv 1) pe_int (nomark _)) (pss_cons (ps_par (i := 0) (j := 1) (by rfl) sc_divisor_of.nd rfl rfl (by decide) rfl rfl (pa_cons (pv 1) (pa_cons (pe_op op_mod (pv 0) (pv 1)) pa_nil)) (by rfl)) pss_nil)) (pss_cons (ps_ret (pv 0)) pss_nil))), ?_⟩
  refine read_of P w K h rfl fun rs k D hs hD hN => ?_
  obtain ⟨a, b, rfl, hk⟩ := hs
  (refine ws_par ?_; refine wa_cons ?_; (first | refine we_cb ?_ | refine we_xlen ?_); refine wa_cons ?_; refine we_var rfl ?_; refine wa_nil ?_; refine ct_abs ?_; refine wa_cons ?_; (first | refine we_cb ?_ | refine we_xlen ?_); refine wa_cons ?_; refine we_var rfl ?_; refine wa_nil ?_; refine ct_abs ?_; refine wa_nil ?_)
  refine ⟨_, _, rfl, ?_⟩
  rw [abs_eq, abs_eq]
  refine ws_while (fun m Γ => ∃ x y : Nat, Γ = [.im (rInt (x : Int)), .im (rInt (y : Int))] ∧ Nat.gcd x y = a.natAbs.gcd b.natAbs ∧ y ≤ m) b.natAbs ⟨a.natAbs, b.natAbs, rfl, rfl, Nat.le_refl _⟩ fun m Γ1 hΓ => ?_
  obtain ⟨x, y, rfl, hg, hm⟩ := hΓ
  (refine wt_test ?_; refine we_op ?_; refine we_var rfl ?_; refine we_c ?_; refine ot_I0 ?_; refine ⟨_, rfl, ?_⟩)
  refine ⟨fun z => ?_, fun z => ?_⟩
  · have h0 : 0 < y := by have := of_decide_eq_true z; omega
    (refine ws_par ?_; refine wa_cons ?_; refine we_var rfl ?_; refine wa_cons ?_; refine we_op ?_; refine we_var rfl ?_; refine we_var rfl ?_; refine ot_I ?_ ?_)
    · show (0 : Int) < (y : Int)
      omega
    (refine wa_nil ?_)
    refine ⟨_, _, rfl, ?_⟩
    have e : ((x : Int) % (y : Int)) = ((x % y : Nat) : Int) := (Int.natCast_emod x y).symm
    rw [e]
    exact ws_nextE rfl _ (by (repeat' (first | exact Weak.nil | apply Weak.eq | apply Weak.no))) ⟨x % y, Nat.lt_of_lt_of_le (Nat.mod_lt x h0) hm, y, x % y, rfl, by rw [← hg, Nat.gcd_comm x y, Nat.gcd_rec y x, Nat.gcd_comm], Nat.le_refl _⟩
  · have h0 : y = 0 := by have := of_decide_eq_false z; omega
    subst h0
    rw [Nat.gcd_zero_right] at hg
    rw [← hg] at hk
    (refine ws_retS (by assumption) ?_; refine we_var rfl ?_)
    exact hk
def frD : Dt → Dt → Bool
  | .int x, .int y => decide (0 < y) && decide (((x.natAbs.gcd y.natAbs : Nat) : Int) = 1)
  | _, _ => false
def isFrD : Dt → Bool
  | .tup [a, b] => frD a b
  | _ => false
def S_is_fraction2 (P : Program) (w : World) (K : PySem.W.Frag) : Spc := fun rs k => ∃ d, rs = [rDt P w K d] ∧ k (rBl (isFrD d))
theorem two_of {l : List Dt} (h : (!decide (V.int (l.length : Int) = V.int 2)) = false) : ∃ p c, l = [p, c] := by
  have hl : l.length = 2 := by
    rw [dVi] at h
    by_cases z : l.length = 2
    · exact z
    · rw [decide_eq_false (by omega)] at h
      cases h
  match l, hl with
  | [p, c], _ => exact ⟨p, c, rfl⟩
theorem two_not {l : List Dt} (h : (!decide (V.int (l.length : Int) = V.int 2)) = true) : isFrD (.tup l) = false := by
  have hl : l.length ≠ 2 := fun z => by
    rw [z] at h
    exact absurd h (by decide)
  match l, hl with
  | [], _ => rfl
  | [_], _ => rfl
  | [_, _], hl => exact absurd rfl hl
  | _ :: _ :: _ :: _, _ => rfl
theorem ok_is_fraction {P : Program} {w : World} {K : PySem.W.Frag} {mg : Str → Option Value} {base : Heap} {f : Addr} {fd fd_divisor_of fd_is_integer : FuncData} (T : Txt K mg) (F : FunD K "is_fraction" "is_fraction" (defArgs s_is_fraction) (defBody s_is_fraction) (defScope s_is_fraction) [] [] f fd) (c_divisor_of : Callee P w K mg base (He.ga K "divisor_of") fd_divisor_of ["one", "other"] 1 (spOf (S_divisor_of P w K))) (c_is_integer : Callee P w K mg base (He.ga K "is_integer") fd_is_integer ["thing"] 1 (spOf (S_is_integer2 P w K)))  :
    FnOk P w K mg base CX0 2 f fd ["thing"] (spOf (S_is_fraction2 P w K)) := by
  refine F.ok sc_is_fraction (len_of (by intro rs k h; first | (obtain ⟨e, _⟩ := h; subst e; exact rfl) | (obtain ⟨_, e, _⟩ := h; subst e; exact rfl) | (obtain ⟨_, _, e, _⟩ := h; subst e; exact rfl) | (obtain ⟨_, _, _, e, _⟩ := h; subst e; exact rfl) | (obtain ⟨_, _, _, _, e, _⟩ := h; subst e; exact rfl) | (obtain ⟨_, _, _, _, _, e, _⟩ := h; subst e; exact rfl) | (obtain ⟨_, _, _, _, _, _, e, _⟩ := h; subst e; exact rfl) | (obtain ⟨_, _, _, _, _, _, _, e, _⟩ := h; subst e; exact rfl) | (obtain ⟨_, _, _, _, _, _, _, _, e, _⟩ := h; subst e; exact rfl) | (obtain ⟨_, _, _, _, _, _, _, _, _, e, _⟩ := h; subst e; exact rfl) | (obtain ⟨_, _, _, _, _, _, _, _, _, _, e, _⟩ := h; subst e; exact rfl) | (obtain ⟨_, _, _, _, _, _, _, _, _, _, _, e, _⟩ := h; subst e; exact rfl) | (obtain ⟨_, _, _, _, _, _, _, _, _, _, _, _, e, _⟩ := h; subst e; exact rfl))) (fun cdv A outer s H vs Q E hr h => ?_)
  
  refine ⟨_, PSs.nox (pss_cons (ps_if (PW.pt (pw_or (pt_not (pt_val (pe_callB (k_isi (P := P) (w := w) (K := K) rfl rfl rfl) rfl T.b_isinstance boot_isinstance (pa_cons (pv 0) (pa_cons (pe_bltn (v := .ty "tuple") rfl T.b_tuple boot_tuple rfl) pa_nil))))) (pw_or (pt_cmpR op_ne (pe_callB (k_len (K := K) rfl) rfl T.b_len boot_len (pa_cons (pv 0) pa_nil)) pe_int (nomark _)) (pw_or (pt_not (pt_val (pe_call (c_is_integer.F.mono (by decide)) hr rfl T.g_is_integer c_is_integer.kp c_is_integer.b .nil pass0 (pa_cons (pe_ix (k_ixT (K := K) rfl) (pv 0) pe_int (fun _ _ => rfl)) pa_nil)))) (pw_or1 (pt_not (pt_val (pe_call (c_is_integer.F.mono (by decide)) hr rfl T.g_is_integer c_is_integer.kp c_is_integer.b .nil pass0 (pa_cons (pe_ix (k_ixT (K := K) rfl) (pv 0) pe_int (fun _ _ => rfl)) pa_nil))))))))) (pss_cons (ps_ret pe_bl) pss_nil) pss_nil) (pss_cons (ps_ret (pe_and (pe_cmpR op_gt (pe_ix (k_ixT (K := K) rfl) (pv 0) pe_int (fun _ _ => rfl)) pe_int (nomark _)) (pe_one (pe_cmpR op_eq (pe_call (c_divisor_of.F.mono (by decide)) hr rfl T.g_divisor_of c_divisor_of.kp c_divisor_of.b .nil pass0 (pa_cons (pe_ix (k_ixT (K := K) rfl) (pv 0) pe_int (fun _ _ => rfl)) (pa_cons (pe_ix (k_ixT (K := K) rfl) (pv 0) pe_int (fun _ _ => rfl)) pa_nil))) pe_int (nomark _))))) pss_nil)), ?_⟩
  refine read_of P w K h rfl fun rs k D hs hD hN => ?_
  obtain ⟨d, rfl, hk⟩ := hs
  (refine ws_if ?_; refine wt_or ?_; refine wt_not ?_; refine wt_B ?_; (first | refine we_cb ?_ | refine we_xlen ?_); refine wa_cons ?_; refine we_var rfl ?_; refine wa_cons ?_; refine we_c ?_; refine wa_nil ?_)
  refine ct_isiTu ?_
  refine ⟨_, rfl, fun h => ?_, fun h => ?_⟩
  · have e : isFrD d = false := by cases d <;> first | rfl | cases h
    rw [e] at hk
    (refine ⟨fun _ => ?_, fun z => Bool.noConfusion (show true = false from by first | exact z | exact z.symm)⟩; refine ws_retS (by assumption) ?_; refine we_c ?_)
    exact hk
  cases d with
  | tup l =>
    rw [rDt_tup]
    (refine wt_or ?_; refine wt_test ?_; refine we_op ?_; (first | refine we_cb ?_ | refine we_xlen ?_); refine wa_cons ?_; refine we_var rfl ?_; refine wa_nil ?_; (first | refine ct_lenT ?_ | refine ct_lenL ?_); refine we_c ?_; refine ot_ne rfl ?_; refine ⟨_, rfl, ?_⟩)
    rw [List.length_map]
    refine ⟨fun h2 => ?_, fun h2 => ?_⟩
    · rw [two_not h2] at hk
      (refine ⟨fun _ => ?_, fun z => Bool.noConfusion (show true = false from by first | exact z | exact z.symm)⟩; refine ws_retS (by assumption) ?_; refine we_c ?_)
      exact hk
    obtain ⟨p, c, rfl⟩ := two_of h2
    (refine wt_or ?_; refine wt_not ?_; refine wt_B ?_; refine we_call ?_; refine wa_cons ?_; refine we_op ?_; refine we_var rfl ?_; refine we_c ?_)
    refine ot_ixT (r := rDt P w K p) rfl ?_
    (refine wa_nil ?_)
    refine ⟨p, rfl, ?_⟩
    refine ⟨_, rfl, fun h3 => ?_, fun h3 => ?_⟩
    · have e : isFrD (.tup [p, c]) = false := by
        cases p <;> first | rfl | cases h3
      rw [e] at hk
      (refine ⟨fun _ => ?_, fun z => Bool.noConfusion (show true = false from by first | exact z | exact z.symm)⟩; refine ws_retS (by assumption) ?_; refine we_c ?_)
      exact hk
    (refine wt_not ?_; refine wt_B ?_; refine we_call ?_; refine wa_cons ?_; refine we_op ?_; refine we_var rfl ?_; refine we_c ?_)
    refine ot_ixT (r := rDt P w K c) rfl ?_
    (refine wa_nil ?_)
    refine ⟨c, rfl, ?_⟩
    refine ⟨_, rfl, fun h4 => ?_, fun h4 => ?_⟩
    · have e : isFrD (.tup [p, c]) = false := by
        cases p <;> cases c <;> first | rfl | cases h4
      rw [e] at hk
      (refine ws_retS (by assumption) ?_; refine we_c ?_)
      exact hk
    cases p with
    | int x =>
      cases c with
      | int y =>
        have hk : k (rBl (decide (0 < y) && decide (((x.natAbs.gcd y.natAbs : Nat) : Int) = 1))) := hk
        ((first | exact ws_end (by assumption) (by assumption) | refine ws_thru ?_); refine ws_retS (by assumption) ?_; refine we_andV ?_; refine we_op ?_; refine we_op ?_; refine we_var rfl ?_; refine we_c ?_)
        refine ot_ixT (r := rInt y) (by show Option.some (rDt P w K (.int y)) = _; rw [rDt_int]) ?_
        (refine we_c ?_; refine ot_I0 ?_; refine ⟨_, rfl, ?_⟩)
        refine ⟨fun h5 => ?_, fun h5 => ?_⟩
        · (refine we_op ?_; refine we_call ?_; refine wa_cons ?_; refine we_op ?_; refine we_var rfl ?_; refine we_c ?_)
          refine ot_ixT (r := rInt x) (by show Option.some (rDt P w K (.int x)) = _; rw [rDt_int]) ?_
          (refine wa_cons ?_; refine we_op ?_; refine we_var rfl ?_; refine we_c ?_)
          refine ot_ixT (r := rInt y) (by show Option.some (rDt P w K (.int y)) = _; rw [rDt_int]) ?_
          (refine wa_nil ?_)
          refine ⟨_, _, rfl, ?_⟩
          (refine we_c ?_; refine ot_eq rfl ?_)
          have h5' : (0 : Int) < y := of_decide_eq_true h5
          rw [decide_eq_true h5', Bool.true_and] at hk
          rw [dVi]
          exact hk
        · have h5' : ¬ (0 : Int) < y := of_decide_eq_false h5
          rw [decide_eq_false h5', Bool.false_and] at hk
          exact hk
      | _ => cases h4
    | _ => cases h3
  | _ => cases h
def S_L_is_int (P : Program) (w : World) (K : PySem.W.Frag) : Spc := fun rs k => ∃ d, rs = [rDt P w K d] ∧ k (rBl (isIntD d))
theorem ok_L_is_int {P : Program} {w : World} {K : PySem.W.Frag} {mg : Str → Option Value} {base : Heap} {f : Addr} {fd : FuncData} (T : Txt K mg) (F : FunD K "_law_is_int" "_law_is_int" (defArgs s_L_is_int) (defBody s_L_is_int) (defScope s_L_is_int) [] [] f fd)   :
    FnOk P w K mg base CX0 1 f fd ["_law_thing"] (spOf (S_L_is_int P w K)) := by
  refine F.ok sc_L_is_int (len_of (by intro rs k h; first | (obtain ⟨e, _⟩ := h; subst e; exact rfl) | (obtain ⟨_, e, _⟩ := h; subst e; exact rfl) | (obtain ⟨_, _, e, _⟩ := h; subst e; exact rfl) | (obtain ⟨_, _, _, e, _⟩ := h; subst e; exact rfl) | (obtain ⟨_, _, _, _, e, _⟩ := h; subst e; exact rfl) | (obtain ⟨_, _, _, _, _, e, _⟩ := h; subst e; exact rfl) | (obtain ⟨_, _, _, _, _, _, e, _⟩ := h; subst e; exact rfl) | (obtain ⟨_, _, _, _, _, _, _, e, _⟩ := h; subst e; exact rfl) | (obtain ⟨_, _, _, _, _, _, _, _, e, _⟩ := h; subst e; exact rfl) | (obtain ⟨_, _, _, _, _, _, _, _, _, e, _⟩ := h; subst e; exact rfl) | (obtain ⟨_, _, _, _, _, _, _, _, _, _, e, _⟩ := h; subst e; exact rfl) | (obtain ⟨_, _, _, _, _, _, _, _, _, _, _, e, _⟩ := h; subst e; exact rfl) | (obtain ⟨_, _, _, _, _, _, _, _, _, _, _, _, e, _⟩ := h; subst e; exact rfl))) (fun cdv A outer s H vs Q E hr h => ?_)
  
  refine ⟨_, PSs.nox (pss_cons (ps_ret (pe_and (pe_callB (k_isi (P := P) (w := w) (K := K) rfl rfl rfl) rfl T.b_isinstance boot_isinstance (pa_cons (pv 0) (pa_cons (pe_bltn (v := .ty "int") rfl T.b_int boot_int rfl) pa_nil))) (pe_one (pe_not (pe_callB (k_isi (P := P) (w := w) (K := K) rfl rfl rfl) rfl T.b_isinstance boot_isinstance (pa_cons (pv 0) (pa_cons (pe_bltn (v := .ty "bool") rfl T.b_bool boot_bool rfl) pa_nil))))))) pss_nil), ?_⟩
  refine read_of P w K h rfl fun rs k D hs hD hN => ?_
  obtain ⟨d, rfl, hk⟩ := hs
  rw [← isInst_int] at hk
  (refine ws_retS (by assumption) ?_; refine we_andV ?_; (first | refine we_cb ?_ | refine we_xlen ?_); refine wa_cons ?_; refine we_var rfl ?_; refine wa_cons ?_; refine we_c ?_; refine wa_nil ?_)
  refine ct_isiI ?_
  refine ⟨_, rfl, fun h => ?_, fun h => ?_⟩
  · rw [h, Bool.true_and] at hk
    (refine we_notV ?_; (first | refine we_cb ?_ | refine we_xlen ?_); refine wa_cons ?_; refine we_var rfl ?_; refine wa_cons ?_; refine we_c ?_; refine wa_nil ?_)
    refine ct_isiBl ?_
    exact ⟨_, rfl, hk⟩
  · rw [h, Bool.false_and] at hk
    exact hk
def tmDt (t : List Int × Int) : Dt := .tup [.tup (t.1.map Dt.int), .int t.2]
theorem rDt_key {P : Program} {w : World} {K : PySem.W.Frag} (k : List Int) : rDt P w K (.tup (k.map Dt.int)) = rKey K k := by
  rw [rDt_tup, List.map_map]
  have e : (rDt P w K ∘ Dt.int) = rInt := funext fun i => rDt_int P w K i
  rw [e]
theorem rDt_tm {P : Program} {w : World} {K : PySem.W.Frag} (t : List Int × Int) : rDt P w K (tmDt t) = rTup K [rKey K t.1, rInt t.2] := by
  unfold tmDt
  rw [rDt_tup]
  show rTup K [rDt P w K (.tup (t.1.map Dt.int)), rDt P w K (.int t.2)] = _
  rw [rDt_key, rDt_int]
theorem rDt_tms {P : Program} {w : World} {K : PySem.W.Frag} (ts : PT) : rDt P w K (.tup (ts.map tmDt)) = rTms K ts := by
  rw [rDt_tup, List.map_map]
  have e : (rDt P w K ∘ tmDt) = fun t : List Int × Int => rTup K [rKey K t.1, rInt t.2] := funext fun t => rDt_tm t
  rw [e]
/-! ### one relation below another -/
def Le (r s : Rel) : Prop := ∀ v H, r.p v H → s.p v H
theorem we_up {B : Bd} {Γ : BX.Ctx} {te : TE} {k : Rel → Prop} (h : WpE B Γ te fun r => ∃ s, Le r s ∧ k s) : WpE B Γ te k := fun σ H E Q hQ =>
  h σ H E Q fun r v H' ⟨s, hl, hk⟩ p e => hQ s v H' hk (hl v H' p) e
section
variable {P : Program} {w : World} {K : PySem.W.Frag}
abbrev LeD (P : Program) (w : World) (K : PySem.W.Frag) (r : Rel) (d : Dt) : Prop := Le r (rDt P w K d)
inductive LeDs (P : Program) (w : World) (K : PySem.W.Frag) : List Rel → List Dt → Prop where
  | nil : LeDs P w K [] []
  | cons {r d rs ds} : LeD P w K r d → LeDs P w K rs ds → LeDs P w K (r :: rs) (d :: ds)
theorem LeDs.al {H : Hp} : ∀ {rs : List Rel} {ds : List Dt} {vs : List V}, LeDs P w K rs ds → Al H rs vs → Al H (ds.map (rDt P w K)) vs
  | _, _, _, .nil, .nil => .nil
  | _, _, _, .cons h t, .cons a b => .cons (h _ _ a) (t.al b)
theorem LeDs.app {rs ss : List Rel} {ds es : List Dt} (h : LeDs P w K rs ds) (g : LeDs P w K ss es) : LeDs P w K (rs ++ ss) (ds ++ es) := by
  induction h with
  | nil => exact g
  | cons a _ ih => exact .cons a ih
theorem LeDs.rep {rs : List Rel} {ds : List Dt} (h : LeDs P w K rs ds) : ∀ n, LeDs P w K (List.replicate n rs).flatten (List.replicate n ds).flatten
  | 0 => .nil
  | n + 1 => by
    rw [List.replicate_succ, List.replicate_succ, List.flatten_cons, List.flatten_cons]
    exact h.app (h.rep n)
theorem LeDs.rev {rs : List Rel} {ds : List Dt} (h : LeDs P w K rs ds) : LeDs P w K rs.reverse ds.reverse := by
  induction h with
  | nil => exact .nil
  | cons a _ ih =>
    rw [List.reverse_cons, List.reverse_cons]
    exact ih.app (.cons a .nil)
theorem LeDs.len {rs : List Rel} {ds : List Dt} (h : LeDs P w K rs ds) : rs.length = ds.length := by
  induction h with
  | nil => rfl
  | cons _ _ ih => rw [List.length_cons, List.length_cons, ih]
theorem LeDs.drop : ∀ {rs : List Rel} {ds : List Dt} (n : Nat), LeDs P w K rs ds → LeDs P w K (rs.drop n) (ds.drop n)
  | _, _, 0, h => h
  | _, _, _ + 1, .nil => .nil
  | _, _, n + 1, .cons _ t => t.drop n
theorem LeDs.take : ∀ {rs : List Rel} {ds : List Dt} (n : Nat), LeDs P w K rs ds → LeDs P w K (rs.take n) (ds.take n)
  | _, _, 0, _ => by rw [List.take_zero, List.take_zero]; exact .nil
  | _, _, _ + 1, .nil => .nil
  | _, _, n + 1, .cons a t => .cons a (t.take n)
theorem LeDs.cut {rs : List Rel} {ds : List Dt} (h : LeDs P w K rs ds) (lo hi : Option Int) : LeDs P w K (cutR rs lo hi) (cutR ds lo hi) := by
  unfold cutR
  rw [h.len]
  exact (h.drop _).take _
theorem LeDs.map {α : Type} {f : α → Rel} {g : α → Dt} : ∀ {l : List α}, (∀ x ∈ l, LeD P w K (f x) (g x)) → LeDs P w K (l.map f) (l.map g)
  | [], _ => .nil
  | x :: l, h => .cons (h x List.mem_cons_self) (LeDs.map fun y hy => h y (List.mem_cons_of_mem _ hy))
theorem le_int {i : Int} : LeD P w K (rInt i) (.int i) := fun v H h => by rw [rDt_int]; exact h
theorem le_intC {i : Int} : LeD P w K (rC (.int i)) (.int i) := le_int
theorem le_bl {b : Bool} : LeD P w K (rBl b) (.bl b) := fun v H h => by rw [rDt_bl]; exact h
theorem le_str {s : Str} : LeD P w K (rStr s) (.str s) := fun v H h => by rw [rDt_str]; exact h
theorem le_non : LeD P w K rNon .non := fun v H h => by rw [rDt_non]; exact h
theorem le_dt {d : Dt} : LeD P w K (rDt P w K d) d := fun v H h => h
theorem le_tup {rs : List Rel} {ds : List Dt} (h : LeDs P w K rs ds) : LeD P w K (rTup K rs) (.tup ds) := fun v H p => by
  rw [rDt_tup]
  obtain ⟨a, xs, h1, h2, h3⟩ := p
  exact ⟨a, xs, h1, h2, h.al h3⟩
theorem le_lst {rs : List Rel} {ds : List Dt} (h : LeDs P w K rs ds) : LeD P w K (rLst rs) (.lst ds) := fun v H p => by
  rw [rDt_lst]
  obtain ⟨a, o, xs, h1, h2, h3⟩ := p
  exact ⟨a, o, xs, h1, h2, h.al h3⟩
theorem le_dct {ks : List (List Int × Rel)} : LeD P w K (rDct P w K ks) .dic := fun v H p => by
  rw [rDt_dic]
  obtain ⟨a, o, es, h1, h2, _⟩ := p
  exact .inr ⟨a, o, es, h1, h2⟩
theorem le_dic {ks : List (Key × Rel)} : LeD P w K (rDic ks) .dic := fun v H p => by
  rw [rDt_dic]
  obtain ⟨a, o, xs, h1, h2, _⟩ := p
  exact .inl ⟨a, o, xs, h1, h2⟩
end
theorem isTerm_tm {t : List Int × Int} (h : In ⟨60, 60, 60, 60⟩ t.1) (h0 : t.2 ≠ 0) : isTermD (tmDt t) = true := by
  obtain ⟨x, y, z, u, e, h1, h2, h3, h4⟩ := h
  have h1 : x ≤ 60 := h1
  have h2 : y ≤ 60 := h2
  have h3 : z ≤ 60 := h3
  have h4 : u ≤ 60 := h4
  show ((isIntD (.int t.2) && isNzD (.int t.2)) && isPwD (.tup (t.1.map Dt.int))) = true
  rw [e]
  show ((true && decide (t.2 ≠ 0)) && (decide ((4 : Nat) = 4) && (inD (.int x) 0 60 && (inD (.int y) 0 60 && (inD (.int z) 0 60 && (inD (.int u) 0 60 && true)))))) = true
  rw [decide_eq_true h0, inD_int, inD_int, inD_int, inD_int]
  simp
  omega
theorem kyD_tm (t : List Int × Int) : kyD (tmDt t) = t.1 := by
  show (t.1.map Dt.int).map _ = t.1
  rw [List.map_map]
  exact List.map_id' t.1
theorem wrong_tms {ts : PT} (hl : ts.length ≤ 300) (hb : Bx ⟨60, 60, 60, 60⟩ ts) (hc : Can ts) : wrongP (.tup (ts.map tmDt)) = none := by
  refine wrong_no (by rw [List.length_map]; omega) fun i hi => ?_
  rw [List.length_map] at hi
  have el : ∀ {j : Nat} (hj : j < ts.length), (ts.map tmDt).getD j .non = tmDt ts[j] := fun {j} hj => by
    rw [List.getD_eq_getElem?_getD, List.getElem?_map, List.getElem?_eq_getElem hj]
    rfl
  unfold badAt
  rw [el hi, isTerm_tm (hb _ (List.getElem_mem hi)) (hc.nz _ (List.getElem_mem hi))]
  by_cases h0 : 0 < i
  · rw [el (show i - 1 < ts.length by omega), kyD_tm, kyD_tm, lex_lt (List.pairwise_iff_getElem.mp hc.st (i - 1) i (by omega) hi (by omega))]
    simp
  · rw [decide_eq_false h0]
    rfl
theorem le_ex {P : Program} {w : World} {K : PySem.W.Frag} {k : Rel → Prop} (hk : ∀ d, k (rDt P w K d)) {r : Rel} (h : ∃ d, LeD P w K r d) : ∃ s, Le r s ∧ k s := h.elim fun d hd => ⟨_, hd, hk d⟩
theorem wt_mono {B : Bd} {Γ : BX.Ctx} {tt : TT} {k k' : Bool → Prop} (h : WpT B Γ tt k) (m : ∀ b, k b → k' b) : WpT B Γ tt k' := fun σ H E Q hQ => h σ H E Q fun b H' q e => hQ b H' (m b q) e
def S_L_small2 (P : Program) (w : World) (K : PySem.W.Frag) : Spc := fun rs k => ∃ un most : Nat, rs = [rHand P w, rInt (un : Int), rInt (most : Int)] ∧ most ≤ 2 ∧ ∀ m, LB (bq most) 15 m → k (rDI P w K m)
end Lw
set_option Elab.async false
set_option linter.all false
set_option maxRecDepth 100000
set_option maxHeartbeats 4000000
/-! Z1: things that may bear polynomials; what is marked; polynomials in so many unknowns. -/
namespace Lw
open PySem PySem.Spec PyProof.Rows L2 BX EX
inductive Md where
  | dt (d : Dt)
  | mk (m : PT)
  | tup (l : List Md)
  | lst (l : List PT)
section
variable (P : Program) (w : World) (K : PySem.W.Frag)
abbrev rMk (m : PT) : Rel := rLst [rStr "P", rDI P w K m]
abbrev rPo (m : PT) : Rel := rPT K (CP K) (canon m)
mutual
def rMd : Md → Rel
  | .dt d => rDt P w K d
  | .mk m => rMk P w K m
  | .tup l => rTup K (rMds l)
  | .lst l => rLst (l.map (rMk P w K))
def rMds : List Md → List Rel
  | [] => []
  | d :: l => rMd d :: rMds l
end
mutual
def rPk : Md → Rel
  | .dt d => rDt P w K d
  | .mk m => rPo K m
  | .tup l => rTup K (rPks l)
  | .lst l => rLst (l.map (rPo K))
def rPks : List Md → List Rel
  | [] => []
  | d :: l => rPk d :: rPks l
end
theorem rMds_map : ∀ l : List Md, rMds P w K l = l.map (rMd P w K)
  | [] => by rw [rMds]; rfl
  | d :: l => by rw [rMds, rMds_map l]; rfl
theorem rPks_map : ∀ l : List Md, rPks P w K l = l.map (rPk P w K)
  | [] => by rw [rPks]; rfl
  | d :: l => by rw [rPks, rPks_map l]; rfl
theorem rMd_dt (d : Dt) : rMd P w K (.dt d) = rDt P w K d := by rw [rMd]
theorem rMd_mk (m : PT) : rMd P w K (.mk m) = rMk P w K m := by rw [rMd]
theorem rMd_tup (l : List Md) : rMd P w K (.tup l) = rTup K (l.map (rMd P w K)) := by rw [rMd, rMds_map]
theorem rMd_lst (l : List PT) : rMd P w K (.lst l) = rLst (l.map (rMk P w K)) := by rw [rMd]
theorem rPk_dt (d : Dt) : rPk P w K (.dt d) = rDt P w K d := by rw [rPk]
theorem rPk_mk (m : PT) : rPk P w K (.mk m) = rPo K m := by rw [rPk]
theorem rPk_tup (l : List Md) : rPk P w K (.tup l) = rTup K (l.map (rPk P w K)) := by rw [rPk, rPks_map]
theorem rPk_lst (l : List PT) : rPk P w K (.lst l) = rLst (l.map (rPo K)) := by rw [rPk]
end
/-- the items of a tuple -/
def elems : Md → Option (List Md)
  | .tup l => some l
  | .dt (.tup l) => some (l.map .dt)
  | _ => none
def isMk : Md → Bool
  | .mk _ => true
  | _ => false
theorem map_dtM {P : Program} {w : World} {K : PySem.W.Frag} (l : List Dt) : (l.map Md.dt).map (rMd P w K) = l.map (rDt P w K) := by
  rw [List.map_map]
  exact List.map_congr_left fun d _ => rMd_dt P w K d
theorem map_dtP {P : Program} {w : World} {K : PySem.W.Frag} (l : List Dt) : (l.map Md.dt).map (rPk P w K) = l.map (rDt P w K) := by
  rw [List.map_map]
  exact List.map_congr_left fun d _ => rPk_dt P w K d
theorem rMd_el {P : Program} {w : World} {K : PySem.W.Frag} {x : Md} {l : List Md} (h : elems x = some l) : rMd P w K x = rTup K (l.map (rMd P w K)) := by
  match x, h with
  | .tup _, h => cases h; exact rMd_tup ..
  | .dt (.tup _), h => cases h; rw [rMd_dt, rDt_tup, map_dtM]
theorem rPk_el {P : Program} {w : World} {K : PySem.W.Frag} {x : Md} {l : List Md} (h : elems x = some l) : rPk P w K x = rTup K (l.map (rPk P w K)) := by
  match x, h with
  | .tup _, h => cases h; exact rPk_tup ..
  | .dt (.tup _), h => cases h; rw [rPk_dt, rDt_tup, map_dtP]
def tyM : Md → String
  | .dt d => tyD d
  | .mk _ => "list"
  | .tup _ => "tuple"
  | .lst _ => "list"
theorem tyM_ok {B : Bd} (x : Md) : HasTy B (rMd B.P B.w B.K x) (.type (tyM x)) := by
  cases x with
  | dt d => rw [rMd_dt]; exact tyD_ok d
  | mk m => rw [rMd_mk]; exact ty_lst
  | tup l => rw [rMd_tup]; exact ty_tup
  | lst l => rw [rMd_lst]; exact ty_lst
def tyP (K : PySem.W.Frag) : Md → Value
  | .mk _ => .ref (CP K)
  | x => .type (tyM x)
theorem tyP_ok {B : Bd} (pP : PolyC B.K (CP B.K)) (x : Md) : HasTy B (rPk B.P B.w B.K x) (tyP B.K x) := by
  cases x with
  | dt d => rw [rPk_dt]; exact tyD_ok d
  | mk m => rw [rPk_mk]; exact pP.ty
  | tup l => rw [rPk_tup]; exact ty_tup
  | lst l => rw [rPk_lst]; exact ty_lst
def isLsM (x : Md) : Bool := tyM x == "list"
theorem kit_list' {K : PySem.W.Frag} (x : Md) : PySem.W.kitOne K (.type (tyM x)) (.type "list") = some (isLsM x) := by
  cases x with
  | dt d =>
    have h := kit_list (K := K) d
    rw [show isLsM (.dt d) = isInst d "list" by cases d <;> rfl]
    exact h
  | mk m => exact k_ll K
  | tup l => exact kit_ty (a := "tuple") (r := false) (by decide +kernel)
  | lst l => exact k_ll K
theorem kit_tup' {K : PySem.W.Frag} (x : Md) : PySem.W.kitOne K (.type (tyM x)) (.type "tuple") = some (elems x).isSome := by
  cases x with
  | dt d =>
    have h := kit_tuple (K := K) d
    rw [show (elems (.dt d)).isSome = isInst d "tuple" by cases d <;> rfl]
    exact h
  | mk m => exact kit_ty (a := "list") (r := false) (by decide +kernel)
  | tup l => exact k_tt K
  | lst l => exact kit_ty (a := "list") (r := false) (by decide +kernel)
/-- things that are let, and how deep they are -/
inductive OkM : Nat → Md → Prop where
  | leaf {n d} : isInst d "list" = false → isInst d "tuple" = false → OkM n (.dt d)
  | mk {n m} : TsB m → OkM n (.mk m)
  | tup {n l} : l.length ≤ 1000 → (∀ x ∈ l, OkM n x) → OkM (n + 1) (.tup l)
  | lst {n l} : l.length ≤ 1000 → (∀ m ∈ l, TsB m) → OkM (n + 1) (.lst l)
  | dtup {n l} : l.length ≤ 1000 → (∀ d ∈ l, OkM n (.dt d)) → OkM (n + 1) (.dt (.tup l))
  | dlst {n l} : l.length ≤ 1000 → l.length ≠ 2 → (∀ d ∈ l, OkM n (.dt d)) → OkM (n + 1) (.dt (.lst l))
theorem OkM.up {n : Nat} {x : Md} (h : OkM n x) : OkM (n + 1) x := by
  induction h with
  | leaf h g => exact .leaf h g
  | mk h => exact .mk h
  | tup h _ ih => exact .tup h ih
  | lst h g => exact .lst h g
  | dtup h _ ih => exact .dtup h ih
  | dlst h g _ ih => exact .dlst h g ih
theorem OkM.mono {n m : Nat} {x : Md} (h : OkM n x) (hn : n ≤ m) : OkM m x := by
  obtain ⟨k, rfl⟩ := Nat.exists_eq_add_of_le hn
  clear hn
  induction k with
  | zero => exact h
  | succ k ih => exact ih.up
theorem OkM.el {n : Nat} {x : Md} {l : List Md} (h : OkM n x) (e : elems x = some l) : l.length ≤ 1000 ∧ ∀ y ∈ l, OkM n y := by
  cases h with
  | leaf h g =>
    rename_i d
    cases d <;> first | (cases e; done) | exact Bool.noConfusion (show true = false from g)
  | mk => cases e
  | tup h g => cases e; exact ⟨h, fun y hy => (g y hy).up⟩
  | lst => cases e
  | dtup h g =>
    cases e
    rw [List.length_map]
    refine ⟨h, fun y hy => ?_⟩
    obtain ⟨d, hd, rfl⟩ := List.mem_map.mp hy
    exact (g d hd).up
  | dlst => cases e
/-- == "P" -/
def rEqP : R2 := fun x y H Q => y = .str "P" ∧ ((x = .str "P" ∧ Q (.bl true) H) ∨ ((∃ a o xs, x = .ref a ∧ H a = some (.frz o (.lst xs))) ∧ Q (.bl false) H))
theorem op_eqP {X : Cx} (hu : X.A.units < cLine) : OpR X (compareOp .Eq) rEqP := by
  intro pins s σ H x y u v Q I rx ry ⟨ey, h⟩
  subst ey
  obtain ⟨t, rfl⟩ := ry
  show wpAny (model X.prog X.w) X.A (richCompare .Eq u (.str "P" t)) (EP X pins σ Q) X.xe s
  rcases h with ⟨ex, q⟩ | ⟨⟨a, o, xs, ex, ha⟩, q⟩
  · subst ex
    obtain ⟨t', rfl⟩ := rx
    exact PySem.SeqAt.RcAt.str_str (A := X.A) (s := s) "P" t' "P" t X.prog X.w _ _ ⟨.bl true, H, I, rfl, q⟩
  · subst ex
    cases (show u = Value.ref a from rx)
    obtain ⟨us, r1, p1, _⟩ := I.list (.inl (.inr ⟨o, ha⟩))
    exact PySem.SeqAt.RcAt.list_str (A := X.A) (s := s) "P" t p1.isList hu X.prog X.w _ _ ⟨.bl false, H, I, rfl, q⟩
theorem ot_eqP1 {B : Bd} {k : Rel → Prop} (q : k (rBl true)) : OpT B rEqP (rStr "P") (rStr "P") k := fun H x y _ h1 h2 Q hQ => by
  cases h1
  cases h2
  exact ⟨rfl, .inl ⟨rfl, hQ _ _ H q rfl (Same.refl H)⟩⟩
theorem ot_eqP2 {B : Bd} {k : Rel → Prop} {rs : List Rel} (q : k (rBl false)) : OpT B rEqP (rLst rs) (rStr "P") k := fun H x y _ h1 h2 Q hQ => by
  cases h2
  obtain ⟨a, o, xs, rfl, ha, _⟩ := h1
  exact ⟨rfl, .inr ⟨⟨a, o, xs, rfl, ha⟩, hQ _ _ H q rfl (Same.refl H)⟩⟩
def S_L_is_marked9 (P : Program) (w : World) (K : PySem.W.Frag) : Spc := fun rs k => ∃ n x, rs = [rMd P w K x] ∧ OkM n x ∧ k (rBl (isMk x))
theorem isLs_mk {x : Md} (h : isLsM x = false) : isMk x = false := by cases x <;> first | rfl | cases h
theorem ok_L_is_marked {P : Program} {w : World} {K : PySem.W.Frag} {mg : Str → Option Value} {base : Heap} {f : Addr} {fd : FuncData} (T : Txt K mg) (F : FunD K "_law_is_marked" "_law_is_marked" (defArgs s_L_is_marked) (defBody s_L_is_marked) (defScope s_L_is_marked) [] [] f fd)   :
    FnOk P w K mg base CX0 1 f fd ["_law_thing"] (spOf (S_L_is_marked9 P w K)) := by
  refine F.ok sc_L_is_marked (len_of (by intro rs k h; first | (obtain ⟨e, _⟩ := h; subst e; exact rfl) | (obtain ⟨_, e, _⟩ := h; subst e; exact rfl) | (obtain ⟨_, _, e, _⟩ := h; subst e; exact rfl) | (obtain ⟨_, _, _, e, _⟩ := h; subst e; exact rfl) | (obtain ⟨_, _, _, _, e, _⟩ := h; subst e; exact rfl) | (obtain ⟨_, _, _, _, _, e, _⟩ := h; subst e; exact rfl) | (obtain ⟨_, _, _, _, _, _, e, _⟩ := h; subst e; exact rfl) | (obtain ⟨_, _, _, _, _, _, _, e, _⟩ := h; subst e; exact rfl) | (obtain ⟨_, _, _, _, _, _, _, _, e, _⟩ := h; subst e; exact rfl) | (obtain ⟨_, _, _, _, _, _, _, _, _, e, _⟩ := h; subst e; exact rfl) | (obtain ⟨_, _, _, _, _, _, _, _, _, _, e, _⟩ := h; subst e; exact rfl) | (obtain ⟨_, _, _, _, _, _, _, _, _, _, _, e, _⟩ := h; subst e; exact rfl) | (obtain ⟨_, _, _, _, _, _, _, _, _, _, _, _, e, _⟩ := h; subst e; exact rfl))) (fun cdv A outer s H vs Q E hr h => ?_)
  
  refine ⟨_, PSs.nox (pss_cons (ps_ret (pe_and (pe_callB (k_isi (P := P) (w := w) (K := K) rfl rfl rfl) rfl T.b_isinstance boot_isinstance (pa_cons (pv 0) (pa_cons (pe_bltn (v := .ty "list") rfl T.b_list boot_list rfl) pa_nil))) (pe_and (pe_cmpR op_eq (pe_callB (k_len (K := K) rfl) rfl T.b_len boot_len (pa_cons (pv 0) pa_nil)) pe_int (nomark _)) (pe_and (pe_cmpR (op_eqP hr.units0) (pe_ix (k_ixL (K := K) rfl) (pv 0) pe_int (fun _ _ => rfl)) pe_str (nomark _)) (pe_one (pe_callB (k_isi (P := P) (w := w) (K := K) rfl rfl rfl) rfl T.b_isinstance boot_isinstance (pa_cons (pe_ix (k_ixL (K := K) rfl) (pv 0) pe_int (fun _ _ => rfl)) (pa_cons (pe_bltn (v := .ty "dict") rfl T.b_dict boot_dict rfl) pa_nil)))))))) pss_nil), ?_⟩
  refine read_of P w K h rfl fun rs k D hs hD hN => ?_
  obtain ⟨n, x, rfl, hx, hk⟩ := hs
  (refine ws_retS (by assumption) ?_; refine we_andV ?_; (first | refine we_cb ?_ | refine we_xlen ?_); refine wa_cons ?_; refine we_var rfl ?_; refine wa_cons ?_; refine we_c ?_; refine wa_nil ?_)
  refine ct_isi (tyM_ok x) (.ty _) (kit_list' x) ?_
  refine ⟨_, rfl, fun h => ?_, fun h => ?_⟩
  · cases hx with
    | leaf g g2 =>
      rename_i d
      cases d <;> first | exact Bool.noConfusion (show false = true from h) | exact Bool.noConfusion (show true = false from g)
    | tup _ _ => cases h
    | dtup _ _ => cases h
    | mk hm =>
      rename_i m
      rw [rMd_mk]
      (refine we_andV ?_; refine we_op ?_; (first | refine we_cb ?_ | refine we_xlen ?_); refine wa_cons ?_; refine we_var rfl ?_; refine wa_nil ?_; (first | refine ct_lenT ?_ | refine ct_lenL ?_); refine we_c ?_; refine ot_eq rfl ?_; refine ⟨_, rfl, ?_⟩)
      refine ⟨fun _ => ?_, fun z => Bool.noConfusion (show true = false from z)⟩
      (refine we_andV ?_; refine we_op ?_; refine we_op ?_; refine we_var rfl ?_; refine we_c ?_)
      refine ot_ixL (r := rStr "P") rfl ?_
      (refine we_c ?_)
      refine ot_eqP1 ?_
      refine ⟨_, rfl, fun _ => ?_, fun z => nomatch z⟩
      ((first | refine we_cb ?_ | refine we_xlen ?_); refine wa_cons ?_; refine we_op ?_; refine we_var rfl ?_; refine we_c ?_)
      refine ot_ixL (r := rDI P w K m) rfl ?_
      (refine wa_cons ?_; refine we_c ?_; refine wa_nil ?_)
      refine ct_isi ty_dct (.ty _) (k_dd _) ?_
      exact hk
    | lst hl hm =>
      rename_i l
      rw [rMd_lst]
      (refine we_andV ?_; refine we_op ?_; (first | refine we_cb ?_ | refine we_xlen ?_); refine wa_cons ?_; refine we_var rfl ?_; refine wa_nil ?_; (first | refine ct_lenT ?_ | refine ct_lenL ?_); refine we_c ?_; refine ot_eq rfl ?_; refine ⟨_, rfl, ?_⟩)
      rw [List.length_map, dVi]
      refine ⟨fun h2 => ?_, fun _ => hk⟩
      have h2 : l.length = 2 := by have := of_decide_eq_true h2; omega
      obtain ⟨a, b, rfl⟩ : ∃ a b, l = [a, b] := by
        match l, h2 with
        | [a, b], _ => exact ⟨a, b, rfl⟩
      (refine we_andV ?_; refine we_op ?_; refine we_op ?_; refine we_var rfl ?_; refine we_c ?_)
      refine ot_ixL (r := rMk P w K a) rfl ?_
      (refine we_c ?_)
      refine ot_eqP2 ?_
      exact ⟨_, rfl, (fun z => nomatch z), fun _ => hk⟩
    | dlst hl h2 _ =>
      rename_i l
      rw [rMd_dt, rDt_lst]
      (refine we_andV ?_; refine we_op ?_; (first | refine we_cb ?_ | refine we_xlen ?_); refine wa_cons ?_; refine we_var rfl ?_; refine wa_nil ?_; (first | refine ct_lenT ?_ | refine ct_lenL ?_); refine we_c ?_; refine ot_eq rfl ?_; refine ⟨_, rfl, ?_⟩)
      rw [List.length_map, dVi, decide_eq_false (by omega)]
      exact ⟨(fun z => nomatch z), fun _ => hk⟩
  · rw [isLs_mk h] at hk
    exact hk
end Lw
set_option Elab.async false
set_option linter.all false
set_option maxRecDepth 100000
set_option maxHeartbeats 4000000
namespace Lw
open PySem PySem.Spec PyProof.Rows L2 BX EX
theorem k_bb (K : PySem.W.Frag) : PySem.W.kitOne K (.type "bool") (.type "bool") = some true := kit_ty (by decide +kernel)
/-- in the first n unknowns alone -/
def isU (n : Nat) (A : PT) : Bool := A.all fun t => decide (t.1.drop n = ([0, 0, 0, 0] : List Int).drop n)
def isUM (n : Nat) : Md → Bool
  | .mk m => isU n m
  | _ => false
theorem cut_drop {l : List Int} {n : Nat} (h : n ≤ l.length) : cutR l (some (n : Int)) none = l.drop n := by
  unfold cutR
  have e : HT.sIx l.length 0 (some (n : Int)) = n := by
    unfold HT.sIx
    simp
    split <;> omega
  have e2 : HT.sIx l.length l.length none = l.length := rfl
  rw [e, e2]
  exact List.take_of_length_le (by rw [List.length_drop]; exact Nat.le_refl _)
theorem isU_canon {m : PT} (h : TsB m) (n : Nat) : isU n (canon m) = isU n m := by
  unfold isU
  rw [canon_nz h.nd h.nz, List.all_map, Bool.eq_iff_iff, List.all_eq_true, List.all_eq_true]
  constructor
  · intro g e he
    exact g e.1 (List.mem_mergeSort.mpr (List.mem_map.mpr ⟨e, he, rfl⟩))
  · intro g k hk
    obtain ⟨e, he, rfl⟩ := List.mem_map.mp (List.mem_mergeSort.mp hk)
    exact g e he
def S_is_in9 (P : Program) (w : World) (K : PySem.W.Frag) : Spc := fun rs k => ∃ (A : PT) (n : Nat), rs = [rPT K (CP K) A, rInt (n : Int)] ∧ PolyC K (CP K) ∧ (∀ t ∈ A, t.1.length = 4) ∧ n ≤ 4 ∧ A.length ≤ 16777000 ∧ k (rBl (isU n A))
theorem ok_is_in {P : Program} {w : World} {K : PySem.W.Frag} {mg : Str → Option Value} {base : Heap} {f : Addr} {fd : FuncData} (T : Txt K mg) (F : FunD K "is_in" "is_in" (defArgs s_is_in) (defBody s_is_in) (defScope s_is_in) [] [] f fd)  (np : ∀ H, SqT K H (He.ga K "NO_POWERS") ([0, 0, 0, 0].map V.int)) :
    FnOk P w K mg base CX0 1 f fd ["poly", "many"] (spOf (S_is_in9 P w K)) := by
  refine F.ok sc_is_in (len_of (by intro rs k h; first | (obtain ⟨e, _⟩ := h; subst e; exact rfl) | (obtain ⟨_, e, _⟩ := h; subst e; exact rfl) | (obtain ⟨_, _, e, _⟩ := h; subst e; exact rfl) | (obtain ⟨_, _, _, e, _⟩ := h; subst e; exact rfl) | (obtain ⟨_, _, _, _, e, _⟩ := h; subst e; exact rfl) | (obtain ⟨_, _, _, _, _, e, _⟩ := h; subst e; exact rfl) | (obtain ⟨_, _, _, _, _, _, e, _⟩ := h; subst e; exact rfl) | (obtain ⟨_, _, _, _, _, _, _, e, _⟩ := h; subst e; exact rfl) | (obtain ⟨_, _, _, _, _, _, _, _, e, _⟩ := h; subst e; exact rfl) | (obtain ⟨_, _, _, _, _, _, _, _, _, e, _⟩ := h; subst e; exact rfl) | (obtain ⟨_, _, _, _, _, _, _, _, _, _, e, _⟩ := h; subst e; exact rfl) | (obtain ⟨_, _, _, _, _, _, _, _, _, _, _, e, _⟩ := h; subst e; exact rfl) | (obtain ⟨_, _, _, _, _, _, _, _, _, _, _, _, e, _⟩ := h; subst e; exact rfl))) (fun cdv A outer s H vs Q E hr h => ?_)
  
  refine ⟨_, PSs.nox (pss_cons (ps_ret (pe_callB (k_all (K := K) rfl rfl) rfl T.b_all boot_all (pa_cons (pe_frz (pe_lc (own := [("powers", 2), ("count", 3)]) (g := gTup K 2 (gCons (gName 2) (gCons (gName 3) gNil))) (tt := tYes) rfl sc_is_in.nd (q_tup (K := K) rfl (q_fld (K := K) rfl (pv 0) rfl)) (blkOk_by (own := [("powers", 2), ("count", 3)]) (N := ["poly", "many", "powers", "count"]) (sc := defScope s_is_in) (by decide +kernel)) (fun _ _ _ _ _ => (q_gtup (K := K) rfl rfl (pgs_cons (pg_name (i := 2) sc_is_in.nd rfl (by first | exact Or.inl rfl | exact Or.inr rfl)) (pgs_cons (pg_name (i := 3) sc_is_in.nd rfl (by first | exact Or.inl rfl | exact Or.inr rfl)) pgs_nil)))) (fun _ _ _ _ _ => pts_nil) (fun _ _ _ _ _ => (pe_cmpR (k_eqD (K := K) rfl hr.units) (pe_slice (k_slT (K := K) rfl) (pv 2) (po_some (pv 1)) po_none) (pe_slice (k_slT (K := K) rfl) (pe_glob (v := .ref (He.ga K "NO_POWERS")) rfl T.c_NO_POWERS rfl) (po_some (pv 1)) po_none) (nomark _))))) pa_nil))) pss_nil), ?_⟩
  refine read_of P w K h rfl fun rs k D hs hD hN => ?_
  obtain ⟨A', n, rfl, hC, hA, hn, hz, hk⟩ := hs
  (refine ws_retS (by assumption) ?_; (first | refine we_cb ?_ | refine we_xlen ?_); refine wa_cons ?_; refine we_frzL ?_)
  refine wl_lcM A' (g := fun t => rTup K [rKey K t.1, rInt t.2]) (h := fun t => rBl (decide (t.1.drop n = ([0, 0, 0, 0] : List Int).drop n))) ?_
  (refine wi_tup ?_; refine we_fld ?_; refine we_var rfl ?_)
  refine ⟨CP K, _, rTms K A', rfl, hC.cl, hC.na, rfl, _, rfl, by rw [List.length_map], fun i hi => getD_map hi, by rw [sizeLine_eq]; omega, fun t ht G' st' => ?_, ?_⟩
  · refine ⟨_, _, ?_, wg_tup rfl (wgs_cons wg_name (wgs_cons wg_name wgs_nil)), ?_⟩
    · intro j hj; exact hj
    · (refine we_op ?_; refine we_slT ?_; refine we_var rfl ?_; refine ⟨_, rfl, ?_⟩; refine wo_some ?_; refine we_var rfl ?_; refine ⟨_, rfl, ?_⟩; refine wo_none ?_; refine we_slT ?_)
      refine we_cr (rKey K [0, 0, 0, 0]) (fun H _ => rKey_of (np H)) ?_
      (refine ⟨_, rfl, ?_⟩; refine wo_some ?_; refine we_var rfl ?_; refine ⟨_, rfl, ?_⟩; refine wo_none ?_)
      rw [cutR_map, cutR_map, cut_drop (show n ≤ t.1.length by rw [hA t ht]; exact hn), cut_drop (show n ≤ ([0, 0, 0, 0] : List Int).length from hn)]
      exact ot_eqK rfl
  · (refine wa_nil ?_)
    refine ct_allE (A'.map fun t => decide (t.1.drop n = ([0, 0, 0, 0] : List Int).drop n)) (by rw [List.map_map]; rfl) ?_
    rw [show (A'.map fun t => decide (t.1.drop n = ([0, 0, 0, 0] : List Int).drop n)).all id = isU n A' by rw [List.all_map]; rfl]
    exact hk
def S_is_poly_in9 (P : Program) (w : World) (K : PySem.W.Frag) : Spc := fun rs k => ∃ (j : Nat) (x : Md) (n : Nat), rs = [rPk P w K x, rInt (n : Int)] ∧ OkM j x ∧ n ≤ 4 ∧ k (rBl (isUM n x))
/-- no Poly by nature -/
def NoPo (K : PySem.W.Frag) : Prop := ∀ x : Md, isMk x = false → PySem.W.kitOne K (.type (tyM x)) (.ref (CP K)) = some false
theorem TsB.n4 {m : PT} (h : TsB m) : ∀ t ∈ m, t.1.length = 4 := fun t ht => (h.b60 t ht).len
theorem canon_in {m : PT} (h : TsB m) {t : List Int × Int} (ht : t ∈ canon m) : t.1.length = 4 := by
  rw [canon_nz h.nd h.nz] at ht
  obtain ⟨k, hk, rfl⟩ := List.mem_map.mp ht
  obtain ⟨e, he, rfl⟩ := List.mem_map.mp (List.mem_mergeSort.mp hk)
  exact h.n4 e he
theorem ok_is_poly_in {P : Program} {w : World} {K : PySem.W.Frag} {mg : Str → Option Value} {base : Heap} {f : Addr} {fd fd_is_in : FuncData} (T : Txt K mg) (F : FunD K "is_poly_in" "is_poly_in" (defArgs s_is_poly_in) (defBody s_is_poly_in) (defScope s_is_poly_in) [] [] f fd) (c_is_in : Callee P w K mg base (He.ga K "is_in") fd_is_in ["poly", "many"] 1 (spOf (S_is_in9 P w K))) (hC : PolyC K (CP K)) (hPo : NoPo K) :
    FnOk P w K mg base CX0 2 f fd ["thing", "many"] (spOf (S_is_poly_in9 P w K)) := by
  refine F.ok sc_is_poly_in (len_of (by intro rs k h; first | (obtain ⟨e, _⟩ := h; subst e; exact rfl) | (obtain ⟨_, e, _⟩ := h; subst e; exact rfl) | (obtain ⟨_, _, e, _⟩ := h; subst e; exact rfl) | (obtain ⟨_, _, _, e, _⟩ := h; subst e; exact rfl) | (obtain ⟨_, _, _, _, e, _⟩ := h; subst e; exact rfl) | (obtain ⟨_, _, _, _, _, e, _⟩ := h; subst e; exact rfl) | (obtain ⟨_, _, _, _, _, _, e, _⟩ := h; subst e; exact rfl) | (obtain ⟨_, _, _, _, _, _, _, e, _⟩ := h; subst e; exact rfl) | (obtain ⟨_, _, _, _, _, _, _, _, e, _⟩ := h; subst e; exact rfl) | (obtain ⟨_, _, _, _, _, _, _, _, _, e, _⟩ := h; subst e; exact rfl) | (obtain ⟨_, _, _, _, _, _, _, _, _, _, e, _⟩ := h; subst e; exact rfl) | (obtain ⟨_, _, _, _, _, _, _, _, _, _, _, e, _⟩ := h; subst e; exact rfl) | (obtain ⟨_, _, _, _, _, _, _, _, _, _, _, _, e, _⟩ := h; subst e; exact rfl))) (fun cdv A outer s H vs Q E hr h => ?_)
  
  refine ⟨_, PSs.nox (pss_cons (ps_ret (pe_and (pe_callB (k_isi (P := P) (w := w) (K := K) rfl rfl rfl) rfl T.b_isinstance boot_isinstance (pa_cons (pv 0) (pa_cons (pe_glob (v := .ref (He.ga K "Poly")) rfl T.c_Poly rfl) pa_nil))) (pe_one (pe_call (c_is_in.F.mono (by decide)) hr rfl T.g_is_in c_is_in.kp c_is_in.b .nil pass0 (pa_cons (pv 0) (pa_cons (pv 1) pa_nil)))))) pss_nil), ?_⟩
  refine read_of P w K h rfl fun rs k D hs hD hN => ?_
  obtain ⟨j, x, n, rfl, hx, hn, hk⟩ := hs
  (refine ws_retS (by assumption) ?_; refine we_andV ?_; (first | refine we_cb ?_ | refine we_xlen ?_); refine wa_cons ?_; refine we_var rfl ?_; refine wa_cons ?_)
  refine we_c ?_
  (refine wa_nil ?_)
  cases hm : isMk x with
  | true =>
    cases x with
    | mk m =>
      have hT : TsB m := by cases hx; assumption
      rw [rPk_mk]
      refine ct_isi hC.ty (.own _) hC.ki ?_
      (refine ⟨_, rfl, ?_⟩; refine ⟨fun _ => ?_, fun z => Bool.noConfusion (show true = false from by first | exact z | exact z.symm)⟩; refine we_call ?_; refine wa_cons ?_; refine we_var rfl ?_; refine wa_cons ?_; refine we_var rfl ?_; refine wa_nil ?_)
      refine ⟨canon m, n, rfl, hC, fun t ht => canon_in hT ht, hn, Nat.le_trans (canon_len m) (Nat.le_trans hT.len (by decide)), ?_⟩
      rw [isU_canon hT]
      exact hk
    | _ => cases hm
  | false =>
    refine ct_isi (tyP_ok hC x) (.own _) (b := false) ?_ ?_
    · cases x with
      | mk m => cases hm
      | dt d => exact hPo _ hm
      | tup l => exact hPo _ hm
      | lst l => exact hPo _ hm
    · refine ⟨_, rfl, (fun z => nomatch z), fun _ => ?_⟩
      rw [show isUM n x = false by cases x <;> first | rfl | cases hm] at hk
      exact hk
def S_L_is_in9 (P : Program) (w : World) (K : PySem.W.Frag) : Spc := fun rs k => ∃ (j : Nat) (x : Md) (n : Nat), rs = [rMd P w K x, rInt (n : Int)] ∧ OkM j x ∧ 0 < n ∧ n ≤ 3 ∧ k (rBl (isUM n x))
theorem zeros_drop {l : List Int} (hl : l.length = 4) {n : Nat} {mx : Int} (h0 : ∀ y ∈ l, 0 ≤ y) (hm : mx ∈ l.drop n) (hle : ∀ y, y ∈ l.drop n → y ≤ mx) : decide (mx = 0) = decide (l.drop n = ([0, 0, 0, 0] : List Int).drop n) := by
  rw [decide_eq_decide]
  have hr : ([0, 0, 0, 0] : List Int).drop n = List.replicate (4 - n) 0 := by
    rw [show ([0, 0, 0, 0] : List Int) = List.replicate 4 0 from rfl, List.drop_replicate]
  rw [hr, List.eq_replicate_iff, List.length_drop, hl]
  constructor
  · rintro rfl
    exact ⟨rfl, fun y hy => Int.le_antisymm (hle y hy) (h0 y (List.mem_of_mem_drop hy))⟩
  · rintro ⟨_, h⟩
    exact h mx hm
theorem ok_L_is_in {P : Program} {w : World} {K : PySem.W.Frag} {mg : Str → Option Value} {base : Heap} {f : Addr} {fd fd_L_is_marked : FuncData} (T : Txt K mg) (F : FunD K "_law_is_in" "_law_is_in" (defArgs s_L_is_in) (defBody s_L_is_in) (defScope s_L_is_in) [] [] f fd) (c_L_is_marked : Callee P w K mg base (He.ga K "_law_is_marked") fd_L_is_marked ["_law_thing"] 1 (spOf (S_L_is_marked9 P w K)))  :
    FnOk P w K mg base CX0 2 f fd ["_law_thing", "_law_many"] (spOf (S_L_is_in9 P w K)) := by
  refine F.ok sc_L_is_in (len_of (by intro rs k h; first | (obtain ⟨e, _⟩ := h; subst e; exact rfl) | (obtain ⟨_, e, _⟩ := h; subst e; exact rfl) | (obtain ⟨_, _, e, _⟩ := h; subst e; exact rfl) | (obtain ⟨_, _, _, e, _⟩ := h; subst e; exact rfl) | (obtain ⟨_, _, _, _, e, _⟩ := h; subst e; exact rfl) | (obtain ⟨_, _, _, _, _, e, _⟩ := h; subst e; exact rfl) | (obtain ⟨_, _, _, _, _, _, e, _⟩ := h; subst e; exact rfl) | (obtain ⟨_, _, _, _, _, _, _, e, _⟩ := h; subst e; exact rfl) | (obtain ⟨_, _, _, _, _, _, _, _, e, _⟩ := h; subst e; exact rfl) | (obtain ⟨_, _, _, _, _, _, _, _, _, e, _⟩ := h; subst e; exact rfl) | (obtain ⟨_, _, _, _, _, _, _, _, _, _, e, _⟩ := h; subst e; exact rfl) | (obtain ⟨_, _, _, _, _, _, _, _, _, _, _, e, _⟩ := h; subst e; exact rfl) | (obtain ⟨_, _, _, _, _, _, _, _, _, _, _, _, e, _⟩ := h; subst e; exact rfl))) (fun cdv A outer s H vs Q E hr h => ?_)
  
  refine ⟨_, PSs.nox (pss_cons (ps_ret (pe_and (pe_call (c_L_is_marked.F.mono (by decide)) hr rfl T.g_L_is_marked c_L_is_marked.kp c_L_is_marked.b .nil pass0 (pa_cons (pv 0) pa_nil)) (pe_one (pe_callB (k_all (K := K) rfl rfl) rfl T.b_all boot_all (pa_cons (pe_frz (pe_lc (own := [("_law_powers", 2)]) (g := gName 2) (tt := tYes) rfl sc_L_is_in.nd (q_keys (P := P) (w := w) rfl rfl (pe_ix (k_ixL (K := K) rfl) (pv 0) pe_int (fun _ _ => rfl))) (blkOk_by (own := [("_law_powers", 2)]) (N := ["_law_thing", "_law_many", "_law_powers"]) (sc := defScope s_L_is_in) (by decide +kernel)) (fun _ _ _ _ _ => (pg_name (i := 2) sc_L_is_in.nd rfl (by first | exact Or.inl rfl | exact Or.inr rfl))) (fun _ _ _ _ _ => pts_nil) (fun _ _ _ _ _ => (pe_cmpR op_eq (pe_callB (k_maxT (K := K) rfl rfl) rfl T.b_max boot_max (pa_cons (pe_slice (k_slT (K := K) rfl) (pv 2) (po_some (pv 1)) po_none) pa_nil)) pe_int (nomark _))))) pa_nil))))) pss_nil), ?_⟩
  refine read_of P w K h rfl fun rs k D hs hD hN => ?_
  obtain ⟨j, x, n, rfl, hx, h0, hn, hk⟩ := hs
  (refine ws_retS (by assumption) ?_; refine we_andV ?_; refine we_call ?_; refine wa_cons ?_; refine we_var rfl ?_; refine wa_nil ?_)
  refine ⟨j, x, rfl, hx, ?_⟩
  refine ⟨_, rfl, fun h => ?_, fun h => ?_⟩
  · cases x with
    | mk m =>
      have hT : TsB m := by cases hx; assumption
      rw [rMd_mk]
      ((first | refine we_cb ?_ | refine we_xlen ?_); refine wa_cons ?_; refine we_frzL ?_)
      refine wl_lcM m (g := fun t => rKey K t.1) (h := fun t => rBl (decide (t.1.drop n = ([0, 0, 0, 0] : List Int).drop n))) ?_
      (refine wi_xkeys ?_; refine we_op ?_; refine we_var rfl ?_; refine we_c ?_)
      refine ot_ixL (r := rDI P w K m) rfl ?_
      refine ⟨mI m, rfl, ?_⟩
      refine ⟨by simp, fun j hj => by rw [List.map_map]; exact keyD hj, by have := hT.len; rw [sizeLine_eq]; omega, fun t ht G st => ?_, ?_⟩
      · refine ⟨_, _, ?_, wg_name, ?_⟩
        · intro j hj; exact hj
        · have hl := hT.n4 t ht
          (refine we_op ?_; (first | refine we_cb ?_ | refine we_xlen ?_); refine wa_cons ?_; refine we_slT ?_; refine we_var rfl ?_; refine ⟨_, rfl, ?_⟩; refine wo_some ?_; refine we_var rfl ?_; refine ⟨_, rfl, ?_⟩; refine wo_none ?_; refine wa_nil ?_)
          rw [cutR_map, cut_drop (by omega)]
          refine ct_maxT (by rw [List.length_drop]; omega) fun mx hm hle => ?_
          (refine we_c ?_; refine ot_eq rfl ?_)
          rw [dVi, zeros_drop hl (fun y hy => ?_) hm hle]
          obtain ⟨i, hi, rfl⟩ := List.mem_iff_getElem.mp hy
          have := (hT.b60 t ht).nn i
          rwa [List.getD_eq_getElem?_getD, List.getElem?_eq_getElem hi] at this
      · (refine wa_nil ?_)
        refine ct_allE (m.map fun t => decide (t.1.drop n = ([0, 0, 0, 0] : List Int).drop n)) (by rw [List.map_map]; rfl) ?_
        rw [show (m.map fun t => decide (t.1.drop n = ([0, 0, 0, 0] : List Int).drop n)).all id = isU n m by rw [List.all_map]; rfl]
        exact hk
    | _ => cases h
  · rw [show isUM n x = false by cases x <;> first | rfl | cases h] at hk
    exact hk
def S_L_marks (P : Program) (w : World) (K : PySem.W.Frag) : Spc := fun rs k => ∃ ms : List PT, rs = [rLst (ms.map (rDI P w K))] ∧ ms.length ≤ 1000 ∧ k (rTup K (ms.map (rMk P w K)))
theorem ok_L_marks {P : Program} {w : World} {K : PySem.W.Frag} {mg : Str → Option Value} {base : Heap} {f : Addr} {fd fd_L_mark : FuncData} (T : Txt K mg) (F : FunD K "_law_marks" "_law_marks" (defArgs s_L_marks) (defBody s_L_marks) (defScope s_L_marks) [] [] f fd) (c_L_mark : Callee P w K mg base (He.ga K "_law_mark") fd_L_mark ["_law_parts"] 1 (spOf (S_L_mark P w K)))  :
    FnOk P w K mg base CX0 2 f fd ["_law_some"] (spOf (S_L_marks P w K)) := by
  refine F.ok sc_L_marks (len_of (by intro rs k h; first | (obtain ⟨e, _⟩ := h; subst e; exact rfl) | (obtain ⟨_, e, _⟩ := h; subst e; exact rfl) | (obtain ⟨_, _, e, _⟩ := h; subst e; exact rfl) | (obtain ⟨_, _, _, e, _⟩ := h; subst e; exact rfl) | (obtain ⟨_, _, _, _, e, _⟩ := h; subst e; exact rfl) | (obtain ⟨_, _, _, _, _, e, _⟩ := h; subst e; exact rfl) | (obtain ⟨_, _, _, _, _, _, e, _⟩ := h; subst e; exact rfl) | (obtain ⟨_, _, _, _, _, _, _, e, _⟩ := h; subst e; exact rfl) | (obtain ⟨_, _, _, _, _, _, _, _, e, _⟩ := h; subst e; exact rfl) | (obtain ⟨_, _, _, _, _, _, _, _, _, e, _⟩ := h; subst e; exact rfl) | (obtain ⟨_, _, _, _, _, _, _, _, _, _, e, _⟩ := h; subst e; exact rfl) | (obtain ⟨_, _, _, _, _, _, _, _, _, _, _, e, _⟩ := h; subst e; exact rfl) | (obtain ⟨_, _, _, _, _, _, _, _, _, _, _, _, e, _⟩ := h; subst e; exact rfl))) (fun cdv A outer s H vs Q E hr h => ?_)
  
  refine ⟨_, PSs.nox (pss_cons (ps_ret (pe_callTy (k_tupleOf (K := K) rfl) rfl T.b_tuple boot_tuple (pa_cons (pe_frz (pe_lc (own := [("_law_parts", 1)]) (g := gName 1) (tt := tYes) rfl sc_L_marks.nd (q_list (K := K) rfl (pv 0)) (blkOk_by (own := [("_law_parts", 1)]) (N := ["_law_some", "_law_parts"]) (sc := defScope s_L_marks) (by decide +kernel)) (fun _ _ _ _ _ => (pg_name (i := 1) sc_L_marks.nd rfl (by first | exact Or.inl rfl | exact Or.inr rfl))) (fun _ _ _ _ _ => pts_nil) (fun _ _ _ _ _ => (pe_call (c_L_mark.F.mono (by decide)) hr rfl T.g_L_mark c_L_mark.kp c_L_mark.b .nil pass0 (pa_cons (pv 1) pa_nil))))) pa_nil))) pss_nil), ?_⟩
  refine read_of P w K h rfl fun rs k D hs hD hN => ?_
  obtain ⟨ms, rfl, hl, hk⟩ := hs
  (refine ws_retS (by assumption) ?_; (first | refine we_cb ?_ | refine we_xlen ?_); refine wa_cons ?_; refine we_frzL ?_)
  refine wl_lcM ms (g := rDI P w K) (h := rMk P w K) ?_
  (refine wi_list ?_; refine we_var rfl ?_; refine ⟨_, rfl, ?_⟩)
  refine ⟨by rw [List.length_map], fun i hi => getD_map hi, by rw [sizeLine_eq]; omega, fun m hm G st => ?_, ?_⟩
  · refine ⟨_, _, ?_, wg_name, ?_⟩
    · intro j hj; exact hj
    · (refine we_call ?_; refine wa_cons ?_; refine we_var rfl ?_; refine wa_nil ?_)
      exact ⟨_, rfl, rfl⟩
  · (refine wa_nil ?_; refine ct_tuple ?_)
    exact hk
def S_L_flag (P : Program) (w : World) (K : PySem.W.Frag) : Spc := fun rs k => ∃ a b : Bool, rs = [rBl a, rBl b] ∧ k (rBl (decide (a = b)))
theorem ok_L_flag {P : Program} {w : World} {K : PySem.W.Frag} {mg : Str → Option Value} {base : Heap} {f : Addr} {fd : FuncData} (T : Txt K mg) (F : FunD K "_law_flag" "_law_flag" (defArgs s_L_flag) (defBody s_L_flag) (defScope s_L_flag) [] [] f fd)   :
    FnOk P w K mg base CX0 1 f fd ["_law_flag_here", "_law_due"] (spOf (S_L_flag P w K)) := by
  refine F.ok sc_L_flag (len_of (by intro rs k h; first | (obtain ⟨e, _⟩ := h; subst e; exact rfl) | (obtain ⟨_, e, _⟩ := h; subst e; exact rfl) | (obtain ⟨_, _, e, _⟩ := h; subst e; exact rfl) | (obtain ⟨_, _, _, e, _⟩ := h; subst e; exact rfl) | (obtain ⟨_, _, _, _, e, _⟩ := h; subst e; exact rfl) | (obtain ⟨_, _, _, _, _, e, _⟩ := h; subst e; exact rfl) | (obtain ⟨_, _, _, _, _, _, e, _⟩ := h; subst e; exact rfl) | (obtain ⟨_, _, _, _, _, _, _, e, _⟩ := h; subst e; exact rfl) | (obtain ⟨_, _, _, _, _, _, _, _, e, _⟩ := h; subst e; exact rfl) | (obtain ⟨_, _, _, _, _, _, _, _, _, e, _⟩ := h; subst e; exact rfl) | (obtain ⟨_, _, _, _, _, _, _, _, _, _, e, _⟩ := h; subst e; exact rfl) | (obtain ⟨_, _, _, _, _, _, _, _, _, _, _, e, _⟩ := h; subst e; exact rfl) | (obtain ⟨_, _, _, _, _, _, _, _, _, _, _, _, e, _⟩ := h; subst e; exact rfl))) (fun cdv A outer s H vs Q E hr h => ?_)
  
  refine ⟨_, PSs.nox (pss_cons (ps_ret (pe_and (pe_callB (k_isi (P := P) (w := w) (K := K) rfl rfl rfl) rfl T.b_isinstance boot_isinstance (pa_cons (pv 0) (pa_cons (pe_bltn (v := .ty "bool") rfl T.b_bool boot_bool rfl) pa_nil))) (pe_one (pe_cmpR op_eq (pv 0) (pv 1) (nomark _))))) pss_nil), ?_⟩
  refine read_of P w K h rfl fun rs k D hs hD hN => ?_
  obtain ⟨a, b, rfl, hk⟩ := hs
  (refine ws_retS (by assumption) ?_; refine we_andV ?_; (first | refine we_cb ?_ | refine we_xlen ?_); refine wa_cons ?_; refine we_var rfl ?_; refine wa_cons ?_; refine we_c ?_; refine wa_nil ?_)
  refine ct_isi ty_bl (.ty _) (k_bb K) ?_
  refine ⟨_, rfl, fun _ => ?_, fun z => nomatch z⟩
  (refine we_op ?_; refine we_var rfl ?_; refine we_var rfl ?_; refine ot_eq rfl ?_)
  rw [show decide (V.bl a = V.bl b) = decide (a = b) by rw [decide_eq_decide]; exact ⟨fun h => by injection h, fun h => by rw [h]⟩]
  exact hk
/-- a slot's relation told by a wider one -/
theorem ws_le {B : Bd} {Γ : BX.Ctx} {D : Ends} {t : TS} {i : Nat} {r s : Rel} (hi : Γ[i]? = Option.some (.im r)) (h : Le r s) (k : WpS B D (Γ.set i (.im s)) t) : WpS B D Γ t := fun σ H E => by
  obtain ⟨v, hv, pv⟩ := E.im_at hi
  have E1 := E.set i (h v H pv)
  have e : σ.set i (some v) = σ := by
    refine List.ext_getElem? fun j => ?_
    by_cases hj : i = j
    · subst hj
      rw [hv]
      have hl : i < σ.length := (List.getElem?_eq_some_iff.mp hv).1
      rw [List.getElem?_set_self hl]
    · rw [List.getElem?_set_ne hj]
  rw [e] at E1
  exact k σ H E1
/-- a place that is a fraction -/
def isPtN (n : Nat) : Dt → Bool
  | .tup l => decide (l.length = n) && l.all isFrD
  | _ => false
def S_is_point9 (P : Program) (w : World) (K : PySem.W.Frag) : Spc := fun rs k => ∃ (r : Rel) (n : Nat), rs = [r, rInt (n : Int)] ∧ n ≤ 4 ∧ ((∃ t, HasTy (bd P w K (fun _ => none)) r t ∧ PySem.W.kitOne K t (.type "tuple") = some false ∧ k (rBl false)) ∨ ∃ d, Le r (rDt P w K d) ∧ k (rBl (isPtN n d)))
theorem ok_is_point {P : Program} {w : World} {K : PySem.W.Frag} {mg : Str → Option Value} {base : Heap} {f : Addr} {fd fd_is_fraction : FuncData} (T : Txt K mg) (F : FunD K "is_point" "is_point" (defArgs s_is_point) (defBody s_is_point) (defScope s_is_point) [] [] f fd) (c_is_fraction : Callee P w K mg base (He.ga K "is_fraction") fd_is_fraction ["thing"] 2 (spOf (S_is_fraction2 P w K)))  :
    FnOk P w K mg base CX0 3 f fd ["thing", "many"] (spOf (S_is_point9 P w K)) := by
  refine F.ok sc_is_point (len_of (by intro rs k h; first | (obtain ⟨e, _⟩ := h; subst e; exact rfl) | (obtain ⟨_, e, _⟩ := h; subst e; exact rfl) | (obtain ⟨_, _, e, _⟩ := h; subst e; exact rfl) | (obtain ⟨_, _, _, e, _⟩ := h; subst e; exact rfl) | (obtain ⟨_, _, _, _, e, _⟩ := h; subst e; exact rfl) | (obtain ⟨_, _, _, _, _, e, _⟩ := h; subst e; exact rfl) | (obtain ⟨_, _, _, _, _, _, e, _⟩ := h; subst e; exact rfl) | (obtain ⟨_, _, _, _, _, _, _, e, _⟩ := h; subst e; exact rfl) | (obtain ⟨_, _, _, _, _, _, _, _, e, _⟩ := h; subst e; exact rfl) | (obtain ⟨_, _, _, _, _, _, _, _, _, e, _⟩ := h; subst e; exact rfl) | (obtain ⟨_, _, _, _, _, _, _, _, _, _, e, _⟩ := h; subst e; exact rfl) | (obtain ⟨_, _, _, _, _, _, _, _, _, _, _, e, _⟩ := h; subst e; exact rfl) | (obtain ⟨_, _, _, _, _, _, _, _, _, _, _, _, e, _⟩ := h; subst e; exact rfl))) (fun cdv A outer s H vs Q E hr h => ?_)
  
  refine ⟨_, PSs.nox (pss_cons (ps_ret (pe_and (pe_callB (k_isi (P := P) (w := w) (K := K) rfl rfl rfl) rfl T.b_isinstance boot_isinstance (pa_cons (pv 0) (pa_cons (pe_bltn (v := .ty "tuple") rfl T.b_tuple boot_tuple rfl) pa_nil))) (pe_and (pe_cmpR op_eq (pe_callB (k_len (K := K) rfl) rfl T.b_len boot_len (pa_cons (pv 0) pa_nil)) (pv 1) (nomark _)) (pe_one (pe_callB (k_all (K := K) rfl rfl) rfl T.b_all boot_all (pa_cons (pe_frz (pe_lc (own := [("place", 2)]) (g := gName 2) (tt := tYes) rfl sc_is_point.nd (q_tup (K := K) rfl (pv 0)) (blkOk_by (own := [("place", 2)]) (N := ["thing", "many", "place"]) (sc := defScope s_is_point) (by decide +kernel)) (fun _ _ _ _ _ => (pg_name (i := 2) sc_is_point.nd rfl (by first | exact Or.inl rfl | exact Or.inr rfl))) (fun _ _ _ _ _ => pts_nil) (fun _ _ _ _ _ => (pe_call (c_is_fraction.F.mono (by decide)) hr rfl T.g_is_fraction c_is_fraction.kp c_is_fraction.b .nil pass0 (pa_cons (pv 2) pa_nil))))) pa_nil)))))) pss_nil), ?_⟩
  refine read_of P w K h rfl fun rs k D hs hD hN => ?_
  obtain ⟨r, n, rfl, hn, hk⟩ := hs
  rcases hk with ⟨t, ht, h2, hk⟩ | ⟨d, hle, hk⟩
  · (refine ws_retS (by assumption) ?_; refine we_andV ?_; (first | refine we_cb ?_ | refine we_xlen ?_); refine wa_cons ?_; refine we_var rfl ?_; refine wa_cons ?_; refine we_c ?_; refine wa_nil ?_)
    refine ct_isi ht (.ty _) h2 ?_
    exact ⟨_, rfl, (fun z => nomatch z), fun _ => hk⟩
  · refine ws_le (i := 0) rfl hle ?_
    (refine ws_retS (by assumption) ?_; refine we_andV ?_; (first | refine we_cb ?_ | refine we_xlen ?_); refine wa_cons ?_; refine we_var rfl ?_; refine wa_cons ?_; refine we_c ?_; refine wa_nil ?_)
    refine ct_isiTu ?_
    refine ⟨_, rfl, fun h => ?_, fun h => ?_⟩
    · cases d with
      | tup l =>
        rw [rDt_tup]
        (refine we_andV ?_; refine we_op ?_; (first | refine we_cb ?_ | refine we_xlen ?_); refine wa_cons ?_; refine we_var rfl ?_; refine wa_nil ?_; (first | refine ct_lenT ?_ | refine ct_lenL ?_); refine we_var rfl ?_; refine ot_eq rfl ?_; refine ⟨_, rfl, ?_⟩)
        rw [List.length_map, dVi]
        have ek : isPtN n (.tup l) = (decide (l.length = n) && l.all isFrD) := rfl
        refine ⟨fun h2 => ?_, fun h2 => ?_⟩
        · have h2 : l.length = n := by have := of_decide_eq_true h2; omega
          rw [ek, decide_eq_true h2, Bool.true_and] at hk
          ((first | refine we_cb ?_ | refine we_xlen ?_); refine wa_cons ?_; refine we_frzL ?_)
          refine wl_lcM l (g := rDt P w K) (h := fun d => rBl (isFrD d)) ?_
          (refine wi_tup ?_; refine we_var rfl ?_; refine ⟨_, rfl, ?_⟩)
          refine ⟨by rw [List.length_map], fun i hi => getD_map2 hi, by rw [sizeLine_eq]; omega, fun q hq G st => ?_, ?_⟩
          · refine ⟨_, _, ?_, wg_name, ?_⟩
            · intro j hj; exact hj
            · (refine we_call ?_; refine wa_cons ?_; refine we_var rfl ?_; refine wa_nil ?_)
              exact ⟨q, rfl, rfl⟩
          (refine wa_nil ?_)
          refine ct_allE (l.map isFrD) (by rw [List.map_map]; rfl) ?_
          rw [show (l.map isFrD).all id = l.all isFrD by rw [List.all_map]; rfl]
          exact hk
        · have h2 : l.length ≠ n := fun z => absurd h2 (by rw [z]; simp)
          rw [ek, decide_eq_false h2, Bool.false_and] at hk
          exact hk
      | _ => cases h
    · rw [show isPtN n d = false by cases d <;> first | rfl | cases h] at hk
      exact hk
end Lw
set_option Elab.async false
set_option linter.all false
set_option maxRecDepth 100000
set_option maxHeartbeats 4000000
namespace Lw
open PySem PySem.Spec PyProof.Rows L2 BX EX
/-- what is told of a wrong part -/
inductive Wr where
  | s (x : Str)
  | at (x : Str) (i : Nat)
def rWr (K : PySem.W.Frag) : Wr → Rel
  | .s x => rStr x
  | .at x i => rTup K [rStr x, rInt (i : Int)]
def badU (n : Nat) (l : List Md) (i : Nat) : Bool := !isUM n (l.getD i (.dt .non))
def rowsW (n : Nat) (x : Md) (one every : Str) : Option Wr := match elems x with
  | none => Option.some (.s every)
  | Option.some l => if l.length > 6 then Option.some (.s every) else ((List.range l.length).find? (badU n l)).map fun i => .at one i
def wrongS (md : Dt) (x y : Md) : Option Wr := match md with
  | .int n => if 1 ≤ n ∧ n ≤ 3 then match rowsW n.toNat x "equation" "equations" with
    | Option.some r => Option.some r
    | none => rowsW n.toNat y "barred" "barred" else Option.some (.s "many")
  | _ => Option.some (.s "many")
theorem rowsW_one {n : Nat} {x : Md} {one every : Str} {l : List Md} (he : elems x = Option.some l) (h : ¬ l.length > 6) {j : Nat} (hj : j < l.length) (hb : badU n l j = true) (hI : ∀ i, i < j → badU n l i = false) : rowsW n x one every = Option.some (.at one j) := by
  unfold rowsW
  rw [he]
  show (if l.length > 6 then _ else _) = _
  rw [if_neg h]
  have e : (List.range l.length).find? (badU n l) = Option.some j := by
    rw [List.find?_range_eq_some]
    exact ⟨hb, List.mem_range.mpr hj, fun i hi => by rw [hI i hi]; rfl⟩
  rw [e]
  rfl
theorem rowsW_no {n : Nat} {x : Md} {one every : Str} {l : List Md} (he : elems x = Option.some l) (h : ¬ l.length > 6) (hI : ∀ i, i < l.length → badU n l i = false) : rowsW n x one every = none := by
  unfold rowsW
  rw [he]
  show (if l.length > 6 then _ else _) = _
  rw [if_neg h]
  have e : (List.range l.length).find? (badU n l) = none := by
    rw [List.find?_eq_none]
    intro i hi
    rw [hI i (List.mem_range.mp hi)]
    decide
  rw [e]
  rfl
theorem rowsW_non {n : Nat} {x : Md} {one every : Str} (he : elems x = none) : rowsW n x one every = Option.some (.s every) := by
  unfold rowsW
  rw [he]
theorem rowsW_long {n : Nat} {x : Md} {one every : Str} {l : List Md} (he : elems x = Option.some l) (h : l.length > 6) : rowsW n x one every = Option.some (.s every) := by
  unfold rowsW
  rw [he]
  exact if_pos h
theorem kit_tupP {K : PySem.W.Frag} (x : Md) (h : elems x = none) (hm : isMk x = false) : PySem.W.kitOne K (.type (tyM x)) (.type "tuple") = Option.some false := by
  rw [kit_tup' x, h]
  rfl
def S_check_polys9 (P : Program) (w : World) (K : PySem.W.Frag) : SpcY := fun rs k e => ∃ (j : Nat) (x : Md) (n : Nat) (one every : Str), rs = [rPk P w K x, rInt (n : Int), rStr one, rStr every] ∧ OkM j x ∧ n ≤ 4 ∧ (rowsW n x one every = none → k rNon) ∧
  ∀ r, rowsW n x one every = Option.some r → e (He.ga K "BadSystem") (Option.some ("part", rWr K r))
theorem ct_tupP {B : Bd} {k : Rel → Prop} {x : Md} (hC : PolyC B.K (CP B.K)) (hCt : PySem.W.kitOne B.K (.ref (CP B.K)) (.type "tuple") = Option.some false) (q : k (rBl (elems x).isSome)) : CaT B (rIsiB B.P B.w B.K) [rPk B.P B.w B.K x, rC (.ty "tuple")] k := by
  cases hm : isMk x with
  | true =>
    cases x with
    | mk m => rw [rPk_mk]; exact ct_isi hC.ty (.ty _) hCt q
    | _ => cases hm
  | false =>
    refine ct_isi (tyP_ok hC x) (.ty _) ?_ q
    cases x with
    | mk m => cases hm
    | dt d => exact kit_tup' _
    | tup d => exact kit_tup' _
    | lst d => exact kit_tup' _
theorem ok_check_polys {P : Program} {w : World} {K : PySem.W.Frag} {mg : Str → Option Value} {base : Heap} {f : Addr} {fd fd_is_poly_in : FuncData} (T : Txt K mg) (F : FunD K "check_polys" "check_polys" (defArgs s_check_polys) (defBody s_check_polys) (defScope s_check_polys) [] [] f fd) (c_is_poly_in : Callee P w K mg base (He.ga K "is_poly_in") fd_is_poly_in ["thing", "many"] 2 (spOf (S_is_poly_in9 P w K))) {fI_BadSystem : Addr} {fd_BadSystem : FuncData} (o_BadSystem : OwnE P w K mg base (He.ga K "BadSystem") fI_BadSystem fd_BadSystem "part") (hC : PolyC K (CP K)) (hCt : PySem.W.kitOne K (.ref (CP K)) (.type "tuple") = some false) :
    FnOk P w K mg base (L2.CX P w) 3 f fd ["thing", "many", "one", "all_of_them"] (spY (S_check_polys9 P w K)) := by
  refine F.ok sc_check_polys (len_ofY (by intro rs k e h; first | (obtain ⟨e, _⟩ := h; subst e; exact rfl) | (obtain ⟨_, e, _⟩ := h; subst e; exact rfl) | (obtain ⟨_, _, e, _⟩ := h; subst e; exact rfl) | (obtain ⟨_, _, _, e, _⟩ := h; subst e; exact rfl) | (obtain ⟨_, _, _, _, e, _⟩ := h; subst e; exact rfl) | (obtain ⟨_, _, _, _, _, e, _⟩ := h; subst e; exact rfl) | (obtain ⟨_, _, _, _, _, _, e, _⟩ := h; subst e; exact rfl) | (obtain ⟨_, _, _, _, _, _, _, e, _⟩ := h; subst e; exact rfl) | (obtain ⟨_, _, _, _, _, _, _, _, e, _⟩ := h; subst e; exact rfl) | (obtain ⟨_, _, _, _, _, _, _, _, _, e, _⟩ := h; subst e; exact rfl) | (obtain ⟨_, _, _, _, _, _, _, _, _, _, e, _⟩ := h; subst e; exact rfl) | (obtain ⟨_, _, _, _, _, _, _, _, _, _, _, e, _⟩ := h; subst e; exact rfl) | (obtain ⟨_, _, _, _, _, _, _, _, _, _, _, _, e, _⟩ := h; subst e; exact rfl))) (fun cdv A outer s H vs Q E hr h => ?_)
  
  refine ⟨_, (pss_cons (ps_if (PW.pt (pw_or (pt_not (pt_val (pe_callB (k_isi (P := P) (w := w) (K := K) rfl rfl rfl) rfl T.b_isinstance boot_isinstance (pa_cons (pv 0) (pa_cons (pe_bltn (v := .ty "tuple") rfl T.b_tuple boot_tuple rfl) pa_nil))))) (pw_or1 (pt_cmpR op_gt (pe_callB (k_len (K := K) rfl) rfl T.b_len boot_len (pa_cons (pv 0) pa_nil)) (pe_glob (v := .int 6) rfl T.c_MOST_POLYS.choose_spec ⟨_, rfl⟩) (nomark _))))) (pss_cons (ps_raise rfl (takes_of rfl rfl rfl rfl) (pmk_oex o_BadSystem.oex o_BadSystem.iC o_BadSystem.tI (o_BadSystem.F.mono (by decide)) hr o_BadSystem.b .nil pass0 rfl T.c_BadSystem (pa_cons (pv 3) pa_nil))) pss_nil) pss_nil) (pss_cons (ps_for (passes_of rfl) rfl (q_enumT (K := K) rfl rfl T.b_enumerate (pa_cons (pv 0) pa_nil)) (q_gtup (K := K) rfl rfl (pgs_cons (pg_name (i := 4) sc_check_polys.nd rfl (by first | exact Or.inl rfl | exact Or.inr rfl)) (pgs_cons (pg_name (i := 5) sc_check_polys.nd rfl (by first | exact Or.inl rfl | exact Or.inr rfl)) pgs_nil))) (pss_cons (ps_if (pt_not (pt_val (pe_call (c_is_poly_in.F.mono (by decide)) hr rfl T.g_is_poly_in c_is_poly_in.kp c_is_poly_in.b .nil pass0 (pa_cons (pv 5) (pa_cons (pv 1) pa_nil))))) (pss_cons (ps_raise rfl (takes_of rfl rfl rfl rfl) (pmk_oex o_BadSystem.oex o_BadSystem.iC o_BadSystem.tI (o_BadSystem.F.mono (by decide)) hr o_BadSystem.b .nil pass0 rfl T.c_BadSystem (pa_cons (pe_tup (pa_cons (pv 2) (pa_cons (pv 4) pa_nil))) pa_nil))) pss_nil) pss_nil) pss_nil)) pss_nil)), ?_⟩
  refine read_ofY P w K h rfl fun rs k e D hs hD hN hE => ?_
  obtain ⟨j, x, n, one, every, rfl, hx, hn, hk, he⟩ := hs
  (refine ws_if ?_; refine wt_or ?_; refine wt_not ?_; refine wt_B ?_; (first | refine we_cb ?_ | refine we_xlen ?_); refine wa_cons ?_; refine we_var rfl ?_; refine wa_cons ?_; refine we_c ?_; refine wa_nil ?_)
  refine ct_tupP hC hCt ?_
  refine ⟨_, rfl, fun h => ?_, fun h => ?_⟩
  · have h : elems x = none := by
      cases e : elems x with
      | none => rfl
      | some l => rw [e] at h; cases h
    (refine ⟨fun _ => ?_, fun z => Bool.noConfusion (show true = false from by first | exact z | exact z.symm)⟩)
    refine ws_rzR hE ?_
    (refine we_var rfl ?_)
    exact he _ (rowsW_non h)
  obtain ⟨l, el⟩ : ∃ l, elems x = Option.some l := by
    cases e : elems x with
    | none => rw [e] at h; cases h
    | some l => exact ⟨l, rfl⟩
  have hl2 := hx.el el
  rw [rPk_el el]
  (refine wt_test ?_; refine we_op ?_; (first | refine we_cb ?_ | refine we_xlen ?_); refine wa_cons ?_; refine we_var rfl ?_; refine wa_nil ?_; (first | refine ct_lenT ?_ | refine ct_lenL ?_); refine we_c ?_; refine ot_I0 ?_; refine ⟨_, rfl, ?_⟩)
  rw [List.length_map]
  refine ⟨fun h3 => ?_, fun h3 => ?_⟩
  · have h3 : l.length > 6 := by have := of_decide_eq_true h3; omega
    skip
    refine ws_rzR hE ?_
    (refine we_var rfl ?_)
    exact he _ (rowsW_long el h3)
  have h3 : ¬ l.length > 6 := by have := of_decide_eq_false h3; omega
  refine ws_thru ?_
  refine ws_forQ (fun j (_ : Unit) => ∀ i, i < j → badU n l i = false) () (fun _ => [.im (rTup K (l.map (rPk P w K))), .im (rInt (n : Int)), .im (rStr one), .im (rStr every), .no, .no]) ?_
  (refine wi_enumT ?_; refine wa_cons ?_; refine we_var rfl ?_; refine wa_nil ?_; refine ⟨_, rfl, ?_⟩)
  refine ⟨by (repeat' (first | exact Weak.nil | apply Weak.eq | apply Weak.no)), fun i hi => absurd hi (Nat.not_lt_zero i), fun j' hj u hI G st => ?_, fun u hI => ?_⟩
  · have hj : j' < l.length := by simpa using hj
    have eg : (l.map (rPk P w K)).getD j' (rC .non) = rPk P w K l[j'] := getD_map2 hj
    have ee : l.getD j' (.dt .non) = l[j'] := by rw [List.getD_eq_getElem?_getD, List.getElem?_eq_getElem hj]; rfl
    have next : badU n l j' = false → ∀ i, i < j' + 1 → badU n l i = false := fun hb i hi => by
      rcases Nat.lt_succ_iff_lt_or_eq.mp hi with z | z
      · exact hI i z
      · rw [z]; exact hb
    refine ⟨_, _, wg_tup rfl (wgs_cons wg_name (wgs_cons wg_name wgs_nil)), ?_⟩
    rw [eg]
    (refine ws_if ?_; refine wt_not ?_; refine wt_B ?_; refine we_call ?_; refine wa_cons ?_; refine we_var rfl ?_; refine wa_cons ?_; refine we_var rfl ?_; refine wa_nil ?_)
    refine ⟨j, l[j'], n, rfl, hl2.2 _ (List.getElem_mem hj), hn, ?_⟩
    refine ⟨_, rfl, fun h => ?_, fun h => ?_⟩
    · have hb : badU n l j' = true := by
        unfold badU
        rw [ee]
        simpa using h
      skip
      refine ws_rzR hE ?_
      (refine we_tup ?_; refine wa_cons ?_; refine we_var rfl ?_; refine wa_cons ?_; refine we_var rfl ?_; refine wa_nil ?_; refine ⟨Nat.le_of_ble_eq_true rfl, ?_⟩)
      exact he _ (rowsW_one el h3 hj hb hI)
    · have hb : badU n l j' = false := by
        unfold badU
        rw [ee]
        simpa using h
      ((first | exact ws_end (by assumption) (by assumption) | refine ws_thru ?_))
      exact fun σ H E => ⟨(), next hb, E.wk (by (repeat' (first | exact Weak.nil | apply Weak.eq | apply Weak.no)))⟩
  · exact ws_end hN (hk (rowsW_no el h3 fun i hi => hI i (by simpa using hi)))
theorem ndx_po {K : PySem.W.Frag} {m : PT} : Ndx (rPo K m) := ndx_ins (by simp) fun q hq => by
  rw [List.mem_singleton.mp hq]
  exact ndx_tms
mutual
theorem ndx_pk {P : Program} {w : World} {K : PySem.W.Frag} : ∀ x : Md, Ndx (rPk P w K x)
  | .dt d => by rw [rPk]; exact ndx_dt d
  | .mk m => by rw [rPk]; exact ndx_po
  | .tup l => by rw [rPk]; exact ndx_tup (ndx_pks l)
  | .lst l => by
    rw [rPk]
    refine ndx_lst fun r hr => ?_
    obtain ⟨m, _, rfl⟩ := List.mem_map.mp hr
    exact ndx_po
theorem ndx_pks {P : Program} {w : World} {K : PySem.W.Frag} : ∀ (l : List Md), ∀ r ∈ rPks P w K l, Ndx r
  | [], r, h => by
    rw [rPks] at h
    cases h
  | d :: l, r, h => by
    rw [rPks] at h
    rcases List.mem_cons.mp h with rfl | h
    · exact ndx_pk d
    · exact ndx_pks l r h
end
abbrev syM (P : Program) (w : World) (K : PySem.W.Frag) (md : Dt) (x y : Md) : List (Str × Rel) := [("many", rDt P w K md), ("equations", rPk P w K x), ("barred", rPk P w K y)]
def S_System_initY (P : Program) (w : World) (K : PySem.W.Frag) : SpcM := fun rs fs ok e => ∃ (j : Nat) (md : Dt) (x y : Md), rs = [rDt P w K md, rPk P w K x, rPk P w K y] ∧ OkM j x ∧ OkM j y ∧ fs = syM P w K md x y ∧ (wrongS md x y = none → ok) ∧
  ∀ r, wrongS md x y = Option.some r → e (He.ga K "BadSystem") (Option.some ("part", rWr K r))
theorem wrongS_many {md : Dt} {x y : Md} (h : inD md 1 3 = false) : wrongS md x y = Option.some (.s "many") := by
  cases md with
  | int i =>
    rw [inD_int] at h
    refine if_neg fun z => ?_
    rw [decide_eq_true z.1, decide_eq_true z.2] at h
    cases h
  | _ => rfl
theorem in13 {md : Dt} (h : inD md 1 3 = true) : ∃ n : Nat, md = .int (n : Int) ∧ 0 < n ∧ n ≤ 3 := by
  cases md with
  | int i =>
    rw [inD_int, Bool.and_eq_true] at h
    have h1 := of_decide_eq_true h.1
    have h2 := of_decide_eq_true h.2
    exact ⟨i.toNat, by rw [Int.toNat_of_nonneg (by omega)], by omega, by omega⟩
  | _ => cases h
theorem wrongS_in {n : Nat} {x y : Md} (h0 : 0 < n) (h3 : n ≤ 3) : wrongS (.int (n : Int)) x y = match rowsW n x "equation" "equations" with
    | Option.some r => Option.some r
    | none => rowsW n y "barred" "barred" := by
  show (if 1 ≤ (n : Int) ∧ (n : Int) ≤ 3 then _ else _) = _
  rw [if_pos (by omega), Int.toNat_natCast]
theorem ok_System_init {P : Program} {w : World} {K : PySem.W.Frag} {mg : Str → Option Value} {base : Heap} {f : Addr} {fd fd_check_polys fd_is_within : FuncData} (T : Txt K mg) (F : FunD K "__init__" "System.__init__" (defArgs s_System_init) (defBody s_System_init) (defScope s_System_init) [] [] f fd) (c_check_polys : CalleeX P w K mg base (He.ga K "check_polys") fd_check_polys ["thing", "many", "one", "all_of_them"] 3 (spY (S_check_polys9 P w K))) (c_is_within : Callee P w K mg base (He.ga K "is_within") fd_is_within ["thing", "least", "most"] 2 (spOf (S_is_within2 P w K))) {fI_BadSystem : Addr} {fd_BadSystem : FuncData} (o_BadSystem : OwnE P w K mg base (He.ga K "BadSystem") fI_BadSystem fd_BadSystem "part") (cs : Cls K (He.ga K "System")) (nm : NoAttr K (He.ga K "System") "many") (ne : NoAttr K (He.ga K "System") "equations") (nb : NoAttr K (He.ga K "System") "barred") :
    FnOk P w K mg base (L2.CX P w) 4 f fd ["self", "many", "equations", "barred"] (spMkY (He.ga K "System") (S_System_initY P w K)) := by
  refine F.ok sc_System_init (len_mkY (by intro rs fs ok e h; first | (obtain ⟨e, _⟩ := h; subst e; exact rfl) | (obtain ⟨_, e, _⟩ := h; subst e; exact rfl) | (obtain ⟨_, _, e, _⟩ := h; subst e; exact rfl) | (obtain ⟨_, _, _, e, _⟩ := h; subst e; exact rfl) | (obtain ⟨_, _, _, _, e, _⟩ := h; subst e; exact rfl) | (obtain ⟨_, _, _, _, _, e, _⟩ := h; subst e; exact rfl) | (obtain ⟨_, _, _, _, _, _, e, _⟩ := h; subst e; exact rfl) | (obtain ⟨_, _, _, _, _, _, _, e, _⟩ := h; subst e; exact rfl) | (obtain ⟨_, _, _, _, _, _, _, _, e, _⟩ := h; subst e; exact rfl) | (obtain ⟨_, _, _, _, _, _, _, _, _, e, _⟩ := h; subst e; exact rfl) | (obtain ⟨_, _, _, _, _, _, _, _, _, _, e, _⟩ := h; subst e; exact rfl) | (obtain ⟨_, _, _, _, _, _, _, _, _, _, _, e, _⟩ := h; subst e; exact rfl) | (obtain ⟨_, _, _, _, _, _, _, _, _, _, _, _, e, _⟩ := h; subst e; exact rfl))) (fun cdv A outer s H vs Q E hr h => ?_)
  
  refine ⟨_, (pss_cons (ps_if (pt_not (pt_val (pe_call (c_is_within.F.mono (by decide)) hr rfl T.g_is_within c_is_within.kp c_is_within.b .nil pass0 (pa_cons (pv 1) (pa_cons pe_int (pa_cons (pe_glob (v := .int 3) rfl T.c_MOST_UNKNOWNS.choose_spec ⟨_, rfl⟩) pa_nil)))))) (pss_cons (ps_raise rfl (takes_of rfl rfl rfl rfl) (pmk_oex o_BadSystem.oex o_BadSystem.iC o_BadSystem.tI (o_BadSystem.F.mono (by decide)) hr o_BadSystem.b .nil pass0 rfl T.c_BadSystem (pa_cons pe_str pa_nil))) pss_nil) pss_nil) (pss_cons (ps_expr (pe_call (c_check_polys.F.mono (by decide)) hr rfl T.g_check_polys c_check_polys.kp c_check_polys.b .nil (passX (takes_of rfl rfl rfl rfl)) (pa_cons (pv 2) (pa_cons (pv 1) (pa_cons pe_str (pa_cons pe_str pa_nil)))))) (pss_cons (ps_expr (pe_call (c_check_polys.F.mono (by decide)) hr rfl T.g_check_polys c_check_polys.kp c_check_polys.b .nil (passX (takes_of rfl rfl rfl rfl)) (pa_cons (pv 3) (pa_cons (pv 1) (pa_cons pe_str (pa_cons pe_str pa_nil)))))) (pss_cons (q_sfld (K := K) rfl (pv 0) (pv 1) rfl) (pss_cons (q_sfld (K := K) rfl (pv 0) (pv 2) rfl) (pss_cons (q_sfld (K := K) rfl (pv 0) (pv 3) rfl) pss_nil)))))), ?_⟩
  refine mk_ofY P w K h rfl fun rs fs ok e D x dx hs hD hE => ?_
  obtain ⟨j, md, x1, y1, rfl, hx, hy, rfl, hok, he⟩ := hs
  (refine ws_if ?_; refine wt_not ?_; refine wt_B ?_; refine we_call ?_; refine wa_cons ?_; refine we_var rfl ?_; refine wa_cons ?_; refine we_c ?_; refine wa_cons ?_; refine we_c ?_; refine wa_nil ?_)
  refine ⟨md, 1, 3, rfl, ?_⟩
  refine ⟨_, rfl, fun h => ?_, fun h => ?_⟩
  · skip
    refine ws_rzR hE ?_
    (refine we_c ?_)
    exact he _ (wrongS_many (by simpa using h))
  obtain ⟨n, rfl, h0, h3⟩ := in13 (show inD md 1 3 = true by simpa using h)
  rw [wrongS_in h0 h3] at hok he
  rw [rDt_int]
  ((first | exact ws_end (by assumption) (by assumption) | refine ws_thru ?_); (first | refine ws_app rfl ?_ | refine ws_drop ?_))
  refine we_callY hE ?_
  (refine wa_cons ?_; refine we_var rfl ?_; refine wa_cons ?_; refine we_var rfl ?_; refine wa_cons ?_; refine we_c ?_; refine wa_cons ?_; refine we_c ?_; refine wa_nil ?_)
  refine ⟨j, x1, n, _, _, rfl, hx, by omega, fun hn1 => ?_, fun r hr => he r (by rw [hr])⟩
  rw [hn1] at hok he
  ((first | refine ws_app rfl ?_ | refine ws_drop ?_))
  refine we_callY hE ?_
  (refine wa_cons ?_; refine we_var rfl ?_; refine wa_cons ?_; refine we_var rfl ?_; refine wa_cons ?_; refine we_c ?_; refine wa_cons ?_; refine we_c ?_; refine wa_nil ?_)
  refine ⟨j, y1, n, _, _, rfl, hy, by omega, fun hn2 => ?_, fun r hr => he r hr⟩
  have er : rDt P w K (.int (n : Int)) = rInt (n : Int) := rDt_int ..
  have hD' := hD (hok hn2)
  rw [show syM P w K (.int (n : Int)) x1 y1 = ([("many", rInt (n : Int)), ("equations", rPk P w K x1), ("barred", rPk P w K y1)] : List (Str × Rel)) by unfold syM; rw [er]] at hD'
  refine ws_fld3 rfl rfl rfl rfl hD' (fun _ h => h) cs nm ne nb ndx_c (ndx_pk _) (ndx_pk _) (fun _ _ _ => rfl) (fun _ => Nat.le_of_ble_eq_true rfl) (fun _ _ => Nat.le_of_ble_eq_true rfl)
end Lw
set_option Elab.async false
set_option linter.all false
set_option maxRecDepth 100000
set_option maxHeartbeats 4000000
namespace Lw
open PySem PySem.Spec PyProof.Rows L2 BX EX
/-- the other one, and the answer -/
def EqO (K : PySem.W.Frag) (A : PT) (r : Rel) (b : Bool) : Prop := (∃ (C2 : Addr) (B : PT), PolyC K C2 ∧ r = rPT K C2 B ∧ b = decide (A = B)) ∨ ∃ us : List Rel, PySem.W.kitOne K (.type "tuple") (.ref (CP K)) = some false ∧ r = rTup K us ∧ b = false
def S_Poly_eq2 (P : Program) (w : World) (K : PySem.W.Frag) : Spc := fun rs k => ∃ (C : Addr) (A : PT) (r : Rel) (b : Bool), rs = [rPT K C A, r] ∧ PolyC K C ∧ EqO K A r b ∧ k (rBl b)
theorem ok_Poly_eq {P : Program} {w : World} {K : PySem.W.Frag} {mg : Str → Option Value} {base : Heap} {f : Addr} {fd : FuncData} (T : Txt K mg) (F : FunD K "__eq__" "Poly.__eq__" (defArgs s_Poly_eq) (defBody s_Poly_eq) (defScope s_Poly_eq) [] [] f fd)   :
    FnOk P w K mg base CX0 1 f fd ["self", "other"] (spOf (S_Poly_eq2 P w K)) := by
  refine F.ok sc_Poly_eq (len_of (by intro rs k h; first | (obtain ⟨e, _⟩ := h; subst e; exact rfl) | (obtain ⟨_, e, _⟩ := h; subst e; exact rfl) | (obtain ⟨_, _, e, _⟩ := h; subst e; exact rfl) | (obtain ⟨_, _, _, e, _⟩ := h; subst e; exact rfl) | (obtain ⟨_, _, _, _, e, _⟩ := h; subst e; exact rfl) | (obtain ⟨_, _, _, _, _, e, _⟩ := h; subst e; exact rfl) | (obtain ⟨_, _, _, _, _, _, e, _⟩ := h; subst e; exact rfl) | (obtain ⟨_, _, _, _, _, _, _, e, _⟩ := h; subst e; exact rfl) | (obtain ⟨_, _, _, _, _, _, _, _, e, _⟩ := h; subst e; exact rfl) | (obtain ⟨_, _, _, _, _, _, _, _, _, e, _⟩ := h; subst e; exact rfl) | (obtain ⟨_, _, _, _, _, _, _, _, _, _, e, _⟩ := h; subst e; exact rfl) | (obtain ⟨_, _, _, _, _, _, _, _, _, _, _, e, _⟩ := h; subst e; exact rfl) | (obtain ⟨_, _, _, _, _, _, _, _, _, _, _, _, e, _⟩ := h; subst e; exact rfl))) (fun cdv A outer s H vs Q E hr h => ?_)
  
  refine ⟨_, PSs.nox (pss_cons (ps_ret (pe_and (pe_callB (k_isi (P := P) (w := w) (K := K) rfl rfl rfl) rfl T.b_isinstance boot_isinstance (pa_cons (pv 1) (pa_cons (pe_glob (v := .ref (He.ga K "Poly")) rfl T.c_Poly rfl) pa_nil))) (pe_one (pe_cmpR (k_eqD (K := K) rfl hr.units) (q_fld (K := K) rfl (pv 0) rfl) (q_fld (K := K) rfl (pv 1) rfl) (nomark _))))) pss_nil), ?_⟩
  refine read_of P w K h rfl fun rs k D hs hD hN => ?_
  obtain ⟨C, A', r, b, rfl, hC, hs, hk⟩ := hs
  rcases hs with ⟨C2, B', hC2, rfl, rfl⟩ | ⟨us, hn, rfl, rfl⟩
  · (refine ws_retS (by assumption) ?_; refine we_andV ?_; (first | refine we_cb ?_ | refine we_xlen ?_); refine wa_cons ?_; refine we_var rfl ?_; refine wa_cons ?_)
    refine we_c ?_
    (refine wa_nil ?_)
    refine ct_isi hC2.ty (.own _) hC2.ki ?_
    (refine ⟨_, rfl, ?_⟩; refine ⟨fun _ => ?_, fun z => Bool.noConfusion (show true = false from by first | exact z | exact z.symm)⟩; refine we_op ?_; refine we_fld ?_; refine we_var rfl ?_)
    refine ⟨_, _, rTms K A', rfl, hC.cl, hC.na, rfl, ?_⟩
    (refine we_fld ?_; refine we_var rfl ?_)
    refine ⟨_, _, rTms K B', rfl, hC2.cl, hC2.na, rfl, ?_⟩
    exact ot_eqTms hk
  · (refine ws_retS (by assumption) ?_; refine we_andV ?_; (first | refine we_cb ?_ | refine we_xlen ?_); refine wa_cons ?_; refine we_var rfl ?_; refine wa_cons ?_)
    refine we_c ?_
    (refine wa_nil ?_)
    refine ct_isi ty_tup (.own _) hn ?_
    (refine ⟨_, rfl, ?_⟩; refine ⟨fun z => Bool.noConfusion (show true = false from by first | exact z | exact z.symm), fun _ => ?_⟩)
    exact hk

abbrev CS (K : PySem.W.Frag) : Addr := He.ga K "System"
structure SyC (K : PySem.W.Frag) : Prop where
  cl : Cls K (CS K)
  nm : NoAttr K (CS K) "many"
  ne : NoAttr K (CS K) "equations"
  nb : NoAttr K (CS K) "barred"
  ha : PySem.W.findIn K (.ref (CS K)) "__class__" = Option.some (Option.some (.builtin "object.__class__"))
  hn : PySem.W.specialIn K (.builtin "object.__class__") "__get__" = Option.some (Option.some (.builtin "getset_descriptor.__get__"))
  htk : PySem.W.takesIn K (.builtin "object.__class__") = Option.some true
  hm : PySem.W.mroIn K (CS K) (.type "object") = Option.some true
  ki : PySem.W.kitOne K (.ref (CS K)) (.ref (CS K)) = Option.some true
  kt : PySem.W.kitOne K (.type "tuple") (.ref (CS K)) = Option.some false
  tk : PySem.W.kitOne K (.ref (CS K)) (.type "tuple") = Option.some false
  eq : PySem.W.findIn K (.ref (CS K)) "__eq__" = Option.some (Option.some (.ref (He.ma K (CS K) "__eq__")))
  isf : PySem.W.isFn K (.ref (He.ma K (CS K) "__eq__")) = true
  nft : PySem.W.notFirst K (CS K) (.type "tuple") = true
theorem SyC.ty {B : Bd} {fs : List (Str × Rel)} (h : SyC B.K) : HasTy B (rIns (CS B.K) fs) (.ref (CS B.K)) := ty_ins h.cl h.ha h.hn h.htk h.hm
abbrev rPs (K : PySem.W.Frag) (E : List PT) : Rel := rTup K (E.map (rPo K))
abbrev rSy (K : PySem.W.Frag) (n : Nat) (E B : List PT) : Rel := rIns (CS K) ([("many", rInt (n : Int)), ("equations", rPs K E), ("barred", rPs K B)] : List (Str × Rel))
/-- equal rows of polynomials -/
def eqPs (E E' : List PT) : Bool := decide (E.length = E'.length) && (E.zip E').all fun z => decide (canon z.1 = canon z.2)
def eqSy (n : Nat) (E B : List PT) (m : Nat) (E' B' : List PT) : Bool := decide (n = m) && (eqPs E E' && eqPs B B')
theorem zip_eq {α : Type} [DecidableEq α] : ∀ L M : List α, (decide (L.length = M.length) && (L.zip M).all fun z => decide (z.1 = z.2)) = decide (L = M)
  | [], [] => rfl
  | [], _ :: _ => rfl
  | _ :: _, [] => rfl
  | a :: L, b :: M => by
    rw [List.zip_cons_cons, List.all_cons, List.length_cons, List.length_cons]
    have ih := zip_eq L M
    by_cases hab : a = b
    · subst hab
      rw [decide_eq_true (rfl : a = a), Bool.true_and, show decide (L.length + 1 = M.length + 1) = decide (L.length = M.length) by rw [decide_eq_decide]; omega, ih, decide_eq_decide]
      simp
    · rw [decide_eq_false hab, Bool.false_and, Bool.and_false, decide_eq_false (fun z => hab (by injection z))]
theorem smB_key {X : Cx} {a b : List Int} : SmB X (rKey X.K a) (rKey X.K b) (decide (a = b)) := by
  have := smB_tup (X := X) (prb_map (R := SmB X) (f := rInt) (g := rInt) (q := fun i j => decide (i = j)) (p1 := fun _ => True) (p2 := fun _ => True) (fun _ _ _ _ => smB_int) a b (fun _ _ => trivial) (fun _ _ => trivial))
  rw [zip_eq a b] at this
  exact this
theorem smB_tms {X : Cx} {A B : PT} : SmB X (rTms X.K A) (rTms X.K B) (decide (A = B)) := by
  have := smB_tup (X := X) (prb_map (R := SmB X) (f := fun t : List Int × Int => rTup X.K [rKey X.K t.1, rInt t.2]) (g := fun t : List Int × Int => rTup X.K [rKey X.K t.1, rInt t.2]) (q := fun i j => decide (i = j)) (p1 := fun _ => True) (p2 := fun _ => True) (fun a b _ _ => by
    have h := smB_tup (X := X) (.cons (smB_key (X := X) (a := a.1) (b := b.1)) (.cons (smB_int (X := X) (i := a.2) (j := b.2)) .nil))
    rw [show (decide (a.1 = b.1) && (decide (a.2 = b.2) && true)) = decide (a = b) by
      rw [Bool.and_true, ← Bool.decide_and, decide_eq_decide]
      exact ⟨fun h => Prod.ext h.1 h.2, fun h => by rw [h]; exact ⟨rfl, rfl⟩⟩] at h
    exact h) A B (fun _ _ => trivial) (fun _ _ => trivial))
  rw [zip_eq A B] at this
  exact this
theorem smB_po {X : Cx} {m m' : PT} : SmB X (rPo X.K m) (rPo X.K m') (decide (canon m = canon m')) := fun pins s σ H x y u I rx ry p q => by
  obtain ⟨a, dx, xs, rfl, ha, hp⟩ := p
  obtain ⟨c, dy, ys, rfl, hc, hq⟩ := q
  cases (show u = Value.ref a from rx)
  obtain rfl : a = c := by
    have := (show Value.ref a = Value.ref c from ry)
    injection this
  rw [ha] at hc
  cases hc
  cases hp with | cons h1 t1 =>
  cases t1
  cases hq with | cons h2 t2 =>
  cases t2
  obtain ⟨u, ru⟩ := relV_ex _
  exact smB_tms pins s σ H _ _ u I ru ru h1.2 h2.2
/-- == of two rows of polynomials -/
def rEqPs (K : PySem.W.Frag) : R2 := fun x y H Q => ∃ E E' : List PT, (rPs K E).p x H ∧ (rPs K E').p y H ∧ ∀ H', Same H H' → Q (.bl (eqPs E E')) H'
theorem eqB_po {X : Cx} {P : Program} {w : World} {K : PySem.W.Frag} {mg : Str → Option Value} {base : Heap} {fd_eq : FuncData} (hP : X.prog = P) (hw : X.w = w) (hK : X.K = K) (hm : X.mg = mg) (hB : X.base = base) (hC : PolyC K (CP K))
    (c_eq : Callee P w K mg base (He.ma K (CP K) "__eq__") fd_eq ["self", "other"] 1 (spOf (S_Poly_eq2 P w K))) (hx : Passes CX0 X E0) {m m' : PT} : EqB X 1 (rPo K m) (rPo K m') (decide (canon m = canon m')) := by
  subst hP hw hK hm hB
  refine RcB.eqB (rcB_ins c_eq.F hC.eq hC.isf c_eq.b hx ⟨CP X.K, canon m, rPo X.K m', _, rfl, hC, .inl ⟨CP X.K, canon m', hC, rfl, rfl⟩, rfl⟩) smB_po ?_ ?_
  · rintro x H ⟨a, _, _, rfl, _⟩
    exact ⟨a, rfl⟩
  · rintro x H ⟨a, _, _, rfl, _⟩
    exact ⟨a, rfl⟩
theorem k_eqPs {X : Cx} {P : Program} {w : World} {K : PySem.W.Frag} {mg : Str → Option Value} {base : Heap} {fd_eq : FuncData} (hP : X.prog = P) (hw : X.w = w) (hK : X.K = K) (hm : X.mg = mg) (hB : X.base = base) (hC : PolyC K (CP K))
    (c_eq : Callee P w K mg base (He.ma K (CP K) "__eq__") fd_eq ["self", "other"] 1 (spOf (S_Poly_eq2 P w K))) (hx : Passes CX0 X E0) (hr : Room 2 X.A) : OpR X (compareOp .Eq) (rEqPs K) := by
  intro pins s σ H x y u v Q I rx ry ⟨E, E', p, q, hQ⟩
  have h := prb_map (R := EqB X 1) (f := rPo K) (g := rPo K) (q := fun a b => decide (canon a = canon b)) (p1 := fun _ => True) (p2 := fun _ => True) (fun a b _ _ => eqB_po hP hw hK hm hB hC c_eq hx) E E' (fun _ _ => trivial) (fun _ _ => trivial)
  subst hK
  exact op_rcB (rcB_tup h) hr I rx ry p q hQ
theorem ot_eqPs {B : Bd} {k : Rel → Prop} {E E' : List PT} (q : k (rBl (eqPs E E'))) : OpT B (rEqPs B.K) (rPs B.K E) (rPs B.K E') k := fun H x y _ h1 h2 Q hQ => ⟨E, E', h1, h2, fun H' e => hQ _ _ H' q rfl e⟩
def S_System_eq (P : Program) (w : World) (K : PySem.W.Frag) : Spc := fun rs k => ∃ (n : Nat) (E B : List PT) (r : Rel), rs = [rSy K n E B, r] ∧ ((∃ m E' B', r = rSy K m E' B' ∧ k (rBl (eqSy n E B m E' B'))) ∨ ∃ us, r = rTup K us ∧ k (rBl false))
theorem ok_System_eq {P : Program} {w : World} {K : PySem.W.Frag} {mg : Str → Option Value} {base : Heap} {f : Addr} {fd : FuncData} (T : Txt K mg) (F : FunD K "__eq__" "System.__eq__" (defArgs s_System_eq) (defBody s_System_eq) (defScope s_System_eq) [] [] f fd)  (hS : SyC K) (hC : PolyC K (CP K)) {fd_eq : FuncData} (c_eq : Callee P w K mg base (He.ma K (CP K) "__eq__") fd_eq ["self", "other"] 1 (spOf (S_Poly_eq2 P w K))) :
    FnOk P w K mg base CX0 4 f fd ["self", "other"] (spOf (S_System_eq P w K)) := by
  refine F.ok sc_System_eq (len_of (by intro rs k h; first | (obtain ⟨e, _⟩ := h; subst e; exact rfl) | (obtain ⟨_, e, _⟩ := h; subst e; exact rfl) | (obtain ⟨_, _, e, _⟩ := h; subst e; exact rfl) | (obtain ⟨_, _, _, e, _⟩ := h; subst e; exact rfl) | (obtain ⟨_, _, _, _, e, _⟩ := h; subst e; exact rfl) | (obtain ⟨_, _, _, _, _, e, _⟩ := h; subst e; exact rfl) | (obtain ⟨_, _, _, _, _, _, e, _⟩ := h; subst e; exact rfl) | (obtain ⟨_, _, _, _, _, _, _, e, _⟩ := h; subst e; exact rfl) | (obtain ⟨_, _, _, _, _, _, _, _, e, _⟩ := h; subst e; exact rfl) | (obtain ⟨_, _, _, _, _, _, _, _, _, e, _⟩ := h; subst e; exact rfl) | (obtain ⟨_, _, _, _, _, _, _, _, _, _, e, _⟩ := h; subst e; exact rfl) | (obtain ⟨_, _, _, _, _, _, _, _, _, _, _, e, _⟩ := h; subst e; exact rfl) | (obtain ⟨_, _, _, _, _, _, _, _, _, _, _, _, e, _⟩ := h; subst e; exact rfl))) (fun cdv A outer s H vs Q E hr h => ?_)
  
  refine ⟨_, PSs.nox (pss_cons (ps_if (PW.pt (pw_or (pt_not (pt_val (pe_callB (k_isi (P := P) (w := w) (K := K) rfl rfl rfl) rfl T.b_isinstance boot_isinstance (pa_cons (pv 1) (pa_cons (pe_glob (v := .ref (He.ga K "System")) rfl T.c_System rfl) pa_nil))))) (pw_or1 (pt_cmpR op_ne (q_fld (K := K) rfl (pv 0) rfl) (q_fld (K := K) rfl (pv 1) rfl) (nomark _))))) (pss_cons (ps_ret pe_bl) pss_nil) pss_nil) (pss_cons (ps_ret (pe_and (pe_cmpR (k_eqPs rfl rfl rfl rfl rfl hC c_eq pass0 (hr.mono (by decide))) (q_fld (K := K) rfl (pv 0) rfl) (q_fld (K := K) rfl (pv 1) rfl) (nomark _)) (pe_one (pe_cmpR (k_eqPs rfl rfl rfl rfl rfl hC c_eq pass0 (hr.mono (by decide))) (q_fld (K := K) rfl (pv 0) rfl) (q_fld (K := K) rfl (pv 1) rfl) (nomark _))))) pss_nil)), ?_⟩
  refine read_of P w K h rfl fun rs k D hs hD hN => ?_
  obtain ⟨n, E', B', r, rfl, hk⟩ := hs
  (refine ws_if ?_; refine wt_or ?_; refine wt_not ?_; refine wt_B ?_; (first | refine we_cb ?_ | refine we_xlen ?_); refine wa_cons ?_; refine we_var rfl ?_; refine wa_cons ?_)
  refine we_c ?_
  (refine wa_nil ?_)
  rcases hk with ⟨m, E2, B2, rfl, hk⟩ | ⟨us, rfl, hk⟩
  · refine ct_isi hS.ty (.own _) hS.ki ?_
    refine ⟨_, rfl, (fun z => nomatch z), fun _ => ?_⟩
    (refine wt_test ?_; refine we_op ?_; refine we_fld ?_; refine we_var rfl ?_)
    refine ⟨_, _, rInt (n : Int), rfl, hS.cl, hS.nm, rfl, ?_⟩
    (refine we_fld ?_; refine we_var rfl ?_)
    refine ⟨_, _, rInt (m : Int), rfl, hS.cl, hS.nm, rfl, ?_⟩
    (refine ot_ne rfl ?_; refine ⟨_, rfl, ?_⟩)
    rw [dVi]
    refine ⟨fun h => ?_, fun h => ?_⟩
    · (refine ws_retS (by assumption) ?_; refine we_c ?_)
      rw [show eqSy n E' B' m E2 B2 = false by unfold eqSy; rw [decide_eq_false (fun z => absurd h (by rw [z]; simp))]; rfl] at hk
      exact hk
    · have hnm : n = m := by
        by_cases z : n = m
        · exact z
        · rw [decide_eq_false (by omega)] at h
          cases h
      rw [show eqSy n E' B' m E2 B2 = (eqPs E' E2 && eqPs B' B2) by unfold eqSy; rw [decide_eq_true hnm, Bool.true_and]] at hk
      ((first | exact ws_end (by assumption) (by assumption) | refine ws_thru ?_); refine ws_retS (by assumption) ?_; refine we_andV ?_; refine we_op ?_; refine we_fld ?_; refine we_var rfl ?_)
      refine ⟨_, _, rPs K E', rfl, hS.cl, hS.ne, rfl, ?_⟩
      (refine we_fld ?_; refine we_var rfl ?_)
      refine ⟨_, _, rPs K E2, rfl, hS.cl, hS.ne, rfl, ?_⟩
      refine ot_eqPs ?_
      refine ⟨_, rfl, fun h1 => ?_, fun h1 => ?_⟩
      · rw [h1, Bool.true_and] at hk
        (refine we_op ?_; refine we_fld ?_; refine we_var rfl ?_)
        refine ⟨_, _, rPs K B', rfl, hS.cl, hS.nb, rfl, ?_⟩
        (refine we_fld ?_; refine we_var rfl ?_)
        refine ⟨_, _, rPs K B2, rfl, hS.cl, hS.nb, rfl, ?_⟩
        exact ot_eqPs hk
      · rw [h1, Bool.false_and] at hk
        exact hk
  · refine ct_isi ty_tup (.own _) hS.kt ?_
    refine ⟨_, rfl, fun _ => ?_, fun z => nomatch z⟩
    (refine ⟨fun _ => ?_, fun z => Bool.noConfusion (show true = false from by first | exact z | exact z.symm)⟩; refine ws_retS (by assumption) ?_; refine we_c ?_)
    exact hk
end Lw
set_option Elab.async false
set_option linter.all false
set_option maxRecDepth 100000
set_option maxHeartbeats 4000000
namespace Lw
open PySem PySem.Spec PyProof.Rows L2 BX EX
def rIsNo : R2 := fun x y H Q => y = .non ∧ Q (.bl (decide (x = .non))) H
theorem op_isNo {X : Cx} : OpR X (compareOp .Is) rIsNo := op_isN
theorem ot_isN0 {B : Bd} {k : Rel → Prop} (q : k (rBl true)) : OpT B rIsNo rNon rNon k := fun H x y _ h1 h2 Q hQ => by
  cases h1
  cases h2
  exact ⟨rfl, hQ _ _ H q rfl (Same.refl H)⟩
theorem ot_isNi {B : Bd} {k : Rel → Prop} {i : Int} (q : k (rBl false)) : OpT B rIsNo (rInt i) rNon k := fun H x y _ h1 h2 Q hQ => by
  cases h1
  cases h2
  exact ⟨rfl, hQ _ _ H q rfl (Same.refl H)⟩
/-- no point of n fractions -/
def NoPt (P : Program) (w : World) (K : PySem.W.Frag) (n : Nat) (r : Rel) : Prop := (∃ t, HasTy (bd P w K (fun _ => none)) r t ∧ PySem.W.kitOne K t (.type "tuple") = Option.some false) ∨ ∃ d, Le r (rDt P w K d) ∧ isPtN n d = false
def S_is_root (P : Program) (w : World) (K : PySem.W.Frag) : Spc := fun rs k => ∃ (n : Nat) (E B : List PT) (r : Rel), rs = [rSy K n E B, r] ∧ n ≤ 4 ∧ NoPt P w K n r ∧ k (rBl false)
theorem ok_is_root {P : Program} {w : World} {K : PySem.W.Frag} {mg : Str → Option Value} {base : Heap} {f : Addr} {fd fd_is_point : FuncData} (T : Txt K mg) (F : FunD K "is_root" "is_root" (defArgs s_is_root) (defBody s_is_root) (defScope s_is_root) [] [] f fd) (c_is_point : Callee P w K mg base (He.ga K "is_point") fd_is_point ["thing", "many"] 3 (spOf (S_is_point9 P w K))) (hS : SyC K) :
    FnOk P w K mg base CX0 4 f fd ["system", "thing"] (spOf (S_is_root P w K)) := by
  refine F.ok sc_is_root (len_of (by intro rs k h; first | (obtain ⟨e, _⟩ := h; subst e; exact rfl) | (obtain ⟨_, e, _⟩ := h; subst e; exact rfl) | (obtain ⟨_, _, e, _⟩ := h; subst e; exact rfl) | (obtain ⟨_, _, _, e, _⟩ := h; subst e; exact rfl) | (obtain ⟨_, _, _, _, e, _⟩ := h; subst e; exact rfl) | (obtain ⟨_, _, _, _, _, e, _⟩ := h; subst e; exact rfl) | (obtain ⟨_, _, _, _, _, _, e, _⟩ := h; subst e; exact rfl) | (obtain ⟨_, _, _, _, _, _, _, e, _⟩ := h; subst e; exact rfl) | (obtain ⟨_, _, _, _, _, _, _, _, e, _⟩ := h; subst e; exact rfl) | (obtain ⟨_, _, _, _, _, _, _, _, _, e, _⟩ := h; subst e; exact rfl) | (obtain ⟨_, _, _, _, _, _, _, _, _, _, e, _⟩ := h; subst e; exact rfl) | (obtain ⟨_, _, _, _, _, _, _, _, _, _, _, e, _⟩ := h; subst e; exact rfl) | (obtain ⟨_, _, _, _, _, _, _, _, _, _, _, _, e, _⟩ := h; subst e; exact rfl))) (fun cdv A outer s H vs Q E hr h => ?_)
  
  refine ⟨_, PSs.nox (pss_cons (ps_ret (pe_and (pe_call (c_is_point.F.mono (by decide)) hr rfl T.g_is_point c_is_point.kp c_is_point.b .nil pass0 (pa_cons (pv 1) (pa_cons (q_fld (K := K) rfl (pv 0) rfl) pa_nil))) (pe_one pe_no))) pss_nil), ?_⟩
  refine read_of P w K h rfl fun rs k D hs hD hN => ?_
  obtain ⟨n, E', B', r, rfl, hn, hr', hk⟩ := hs
  (refine ws_retS (by assumption) ?_; refine we_andV ?_; refine we_call ?_; refine wa_cons ?_; refine we_var rfl ?_; refine wa_cons ?_; refine we_fld ?_; refine we_var rfl ?_)
  refine ⟨_, _, rInt (n : Int), rfl, hS.cl, hS.nm, rfl, ?_⟩
  (refine wa_nil ?_)
  refine ⟨r, n, rfl, hn, ?_⟩
  rcases hr' with ⟨t, ht, h2⟩ | ⟨d, hle, h2⟩
  · exact .inl ⟨t, ht, h2, ⟨_, rfl, (fun z => nomatch z), fun _ => hk⟩⟩
  · refine .inr ⟨d, hle, ?_⟩
    rw [h2]
    exact ⟨_, rfl, (fun z => nomatch z), fun _ => hk⟩
theorem at0 {L : List Rel} {r : Rel} (h : L[0]? = Option.some r) : atI L 0 = Option.some r := atI_nat (j := 0) h
/-- the sizes of steps -/
structure SzV (K : PySem.W.Frag) : Prop where
  v : ∀ q ∈ ([("part", 2), ("none", 3), ("add", 4)] : List (Str × Int)), ∃ u, PySem.W.nsIn K (He.ga K "SIZES") q.1 = Option.some (Option.some u) ∧ RelV (.int q.2) u
  no : PySem.W.nsIn K (He.ga K "SIZES") "parts" = Option.some none
def StepB : Dt → Prop
  | .tup (.str s :: l) => s = "parts" ∨ ∃ q ∈ ([("part", 2), ("none", 3), ("add", 4)] : List (Str × Int)), s = q.1 ∧ (l.length : Int) + 1 ≠ q.2
  | _ => True
def S_states_behind (P : Program) (w : World) (K : PySem.W.Frag) : Spc := fun rs k => ∃ (n : Nat) (r1 r2 : Rel) (d : Dt), rs = [rInt (n : Int), rTup K [r1, r2], rDt P w K d] ∧ StepB d ∧ k rNon
theorem ok_states_behind {P : Program} {w : World} {K : PySem.W.Frag} {mg : Str → Option Value} {base : Heap} {f : Addr} {fd : FuncData} (T : Txt K mg) (F : FunD K "states_behind" "states_behind" (defArgs s_states_behind) (defBody s_states_behind) (defScope s_states_behind) [] [] f fd)  {eD : Array DictEntry} {nD : Nat} (hKd : KDict K w (He.ga K "SIZES") eD nD) (hZ : SzV K) :
    FnOk P w K mg base CX0 1 f fd ["many", "state", "step"] (spOf (S_states_behind P w K)) := by
  refine F.ok sc_states_behind (len_of (by intro rs k h; first | (obtain ⟨e, _⟩ := h; subst e; exact rfl) | (obtain ⟨_, e, _⟩ := h; subst e; exact rfl) | (obtain ⟨_, _, e, _⟩ := h; subst e; exact rfl) | (obtain ⟨_, _, _, e, _⟩ := h; subst e; exact rfl) | (obtain ⟨_, _, _, _, e, _⟩ := h; subst e; exact rfl) | (obtain ⟨_, _, _, _, _, e, _⟩ := h; subst e; exact rfl) | (obtain ⟨_, _, _, _, _, _, e, _⟩ := h; subst e; exact rfl) | (obtain ⟨_, _, _, _, _, _, _, e, _⟩ := h; subst e; exact rfl) | (obtain ⟨_, _, _, _, _, _, _, _, e, _⟩ := h; subst e; exact rfl) | (obtain ⟨_, _, _, _, _, _, _, _, _, e, _⟩ := h; subst e; exact rfl) | (obtain ⟨_, _, _, _, _, _, _, _, _, _, e, _⟩ := h; subst e; exact rfl) | (obtain ⟨_, _, _, _, _, _, _, _, _, _, _, e, _⟩ := h; subst e; exact rfl) | (obtain ⟨_, _, _, _, _, _, _, _, _, _, _, _, e, _⟩ := h; subst e; exact rfl))) (fun cdv A outer s H vs Q E hr h => ?_)
  
  refine ⟨_, PSs.nox (pss_cons (ps_asg (pv 1) (q_gtup (K := K) rfl rfl (pgs_cons (pg_name (i := 3) sc_states_behind.nd rfl (by first | exact Or.inl rfl | exact Or.inr rfl)) (pgs_cons (pg_name (i := 4) sc_states_behind.nd rfl (by first | exact Or.inl rfl | exact Or.inr rfl)) pgs_nil)))) (pss_cons (ps_if (PW.pt (pw_or (pt_not (pt_val (pe_callB (k_isi (P := P) (w := w) (K := K) rfl rfl rfl) rfl T.b_isinstance boot_isinstance (pa_cons (pv 2) (pa_cons (pe_bltn (v := .ty "tuple") rfl T.b_tuple boot_tuple rfl) pa_nil))))) (pw_or (pt_cmpR op_eq (pe_callB (k_len (K := K) rfl) rfl T.b_len boot_len (pa_cons (pv 2) pa_nil)) pe_int (nomark _)) (pw_or (pt_not (pt_val (pe_callB (k_isi (P := P) (w := w) (K := K) rfl rfl rfl) rfl T.b_isinstance boot_isinstance (pa_cons (pe_ix (k_ixT (K := K) rfl) (pv 2) pe_int (fun _ _ => rfl)) (pa_cons (pe_bltn (v := .ty "str") rfl T.b_str boot_str rfl) pa_nil))))) (pw_or1 (pt_cmpR (k_notKd (K := K) (w := w) rfl rfl hKd) (pe_ix (k_ixT (K := K) rfl) (pv 2) pe_int (fun _ _ => rfl)) (pe_glob (v := .ref (He.ga K "SIZES")) rfl T.c_SIZES rfl) rfl)))))) (pss_cons (ps_ret pe_non) pss_nil) pss_nil) (pss_cons (ps_if (pt_cmpR op_ne (pe_callB (k_len (K := K) rfl) rfl T.b_len boot_len (pa_cons (pv 2) pa_nil)) (pe_ix (k_ixD (K := K) (w := w) rfl rfl) (pe_glob (v := .ref (He.ga K "SIZES")) rfl T.c_SIZES rfl) (pe_ix (k_ixT (K := K) rfl) (pv 2) pe_int (fun _ _ => rfl)) (fun _ _ => rfl)) (nomark _)) (pss_cons (ps_ret pe_non) pss_nil) pss_nil) (pss_cons ps_no (pss_cons ps_no (pss_cons ps_no (pss_cons ps_no (pss_cons ps_no (pss_cons ps_no (pss_cons ps_no pss_nil)))))))))), ?_⟩
  refine read_of P w K h rfl fun rs k D hs hD hN => ?_
  obtain ⟨n, r1, r2, d, rfl, hd, hk⟩ := hs
  refine ws_asgG (Γ' := []) ?_
  (refine we_var rfl ?_)
  refine ⟨_, _, wg_tup rfl (wgs_cons wg_name (wgs_cons wg_name wgs_nil)), ?_⟩
  (refine ws_if ?_; refine wt_or ?_; refine wt_not ?_; refine wt_B ?_; (first | refine we_cb ?_ | refine we_xlen ?_); refine wa_cons ?_; refine we_var rfl ?_; refine wa_cons ?_; refine we_c ?_; refine wa_nil ?_)
  refine ct_isiTu ?_
  refine ⟨_, rfl, fun h => ?_, fun h => ?_⟩
  · (refine ⟨fun _ => ?_, fun z => Bool.noConfusion (show true = false from by first | exact z | exact z.symm)⟩; refine ws_retS (by assumption) ?_; refine we_c ?_)
    exact hk
  cases d with
  | tup l =>
    rw [rDt_tup]
    (refine wt_or ?_; refine wt_test ?_; refine we_op ?_; (first | refine we_cb ?_ | refine we_xlen ?_); refine wa_cons ?_; refine we_var rfl ?_; refine wa_nil ?_; (first | refine ct_lenT ?_ | refine ct_lenL ?_); refine we_c ?_; refine ot_eq rfl ?_; refine ⟨_, rfl, ?_⟩)
    rw [List.length_map, dVi]
    refine ⟨fun h2 => ?_, fun h2 => ?_⟩
    · (refine ⟨fun _ => ?_, fun z => Bool.noConfusion (show true = false from by first | exact z | exact z.symm)⟩; refine ws_retS (by assumption) ?_; refine we_c ?_)
      exact hk
    obtain ⟨x, l, rfl⟩ : ∃ x l', l = x :: l' := by
      cases l with
      | nil => cases h2
      | cons x l => exact ⟨x, l, rfl⟩
    (refine wt_or ?_; refine wt_not ?_; refine wt_B ?_; (first | refine we_cb ?_ | refine we_xlen ?_); refine wa_cons ?_; refine we_op ?_; refine we_var rfl ?_; refine we_c ?_)
    refine ot_ixT (r := rDt P w K x) (at0 rfl) ?_
    (refine wa_cons ?_; refine we_c ?_; refine wa_nil ?_)
    refine ct_isi (tyD_ok x) (.ty _) (kit_str x) ?_
    refine ⟨_, rfl, fun h3 => ?_, fun h3 => ?_⟩
    · (refine ⟨fun _ => ?_, fun z => Bool.noConfusion (show true = false from by first | exact z | exact z.symm)⟩; refine ws_retS (by assumption) ?_; refine we_c ?_)
      exact hk
    cases x with
    | str z =>
      (refine wt_test ?_; refine we_op ?_; refine we_op ?_; refine we_var rfl ?_; refine we_c ?_)
      refine ot_ixT (r := rStr z) (at0 (by show Option.some (rDt P w K (.str z)) = _; rw [rDt_str])) ?_
      skip
      rcases hd with hd | ⟨q, hq, hz, hl⟩
      · subst hd
        refine we_c ?_
        refine ot_notKd (B := bd P w K H) hZ.no ?_
        refine ⟨_, rfl, fun _ => ?_, fun z => nomatch z⟩
        (refine ws_retS (by assumption) ?_; refine we_c ?_)
        exact hk
      · obtain ⟨u, hu, ru⟩ := hZ.v q hq
        subst hz
        refine we_c ?_
        refine ot_notKd (B := bd P w K H) hu ?_
        refine ⟨_, rfl, fun z => (nomatch z), fun _ => ?_⟩
        ((first | exact ws_end (by assumption) (by assumption) | refine ws_thru ?_); refine ws_if ?_; refine wt_test ?_; refine we_op ?_; (first | refine we_cb ?_ | refine we_xlen ?_); refine wa_cons ?_; refine we_var rfl ?_; refine wa_nil ?_; (first | refine ct_lenT ?_ | refine ct_lenL ?_); refine we_op ?_)
        refine we_c ?_
        (refine we_op ?_; refine we_var rfl ?_; refine we_c ?_)
        refine ot_ixT (r := rStr q.1) (at0 (by show Option.some (rDt P w K (.str q.1)) = _; rw [rDt_str])) ?_
        refine ot_ixD (B := bd P w K H) ⟨eD, nD, u, hKd.at_, hKd.lit, hu, ru⟩ ?_
        (refine ot_ne rfl ?_; refine ⟨_, rfl, ?_⟩)
        rw [List.length_map, dVi, List.length_cons]
        refine ⟨fun _ => ?_, fun z => absurd z (by simp; omega)⟩
        (refine ws_retS (by assumption) ?_; refine we_c ?_)
        exact hk
    | _ => exact Bool.noConfusion (show true = false from h3)
  | _ => cases h
/-- what a cover's fault is -/
def CovF (P : Program) (w : World) (K : PySem.W.Frag) (r : Rel) (i : Int) : Prop := ((∃ t, HasTy (bd P w K (fun _ => none)) r t ∧ PySem.W.kitOne K t (.type "tuple") = Option.some false) ∧ i = -1) ∨ (r = rTup K [] ∧ i = 0) ∨
  ∃ (d : Dt) (m : Nat), Le r (rTup K (List.replicate (m + 1) (rDt P w K d))) ∧ m ≤ 10 ∧ StepB d ∧ i = 0
def S_walked (P : Program) (w : World) (K : PySem.W.Frag) : Spc := fun rs k => ∃ (n : Nat) (E B : List PT) (r : Rel) (i : Int), rs = [rSy K n E B, r] ∧ n ≤ 4 ∧ CovF P w K r i ∧ k (rTup K [rInt i, rLst []])
theorem ok_walked {P : Program} {w : World} {K : PySem.W.Frag} {mg : Str → Option Value} {base : Heap} {f : Addr} {fd fd_states_behind : FuncData} (T : Txt K mg) (F : FunD K "walked" "walked" (defArgs s_walked) (defBody s_walked) (defScope s_walked) [] [] f fd) (c_states_behind : Callee P w K mg base (He.ga K "states_behind") fd_states_behind ["many", "state", "step"] 1 (spOf (S_states_behind P w K))) (hS : SyC K) :
    FnOk P w K mg base CX0 2 f fd ["system", "cover"] (spOf (S_walked P w K)) := by
  refine F.ok sc_walked (len_of (by intro rs k h; first | (obtain ⟨e, _⟩ := h; subst e; exact rfl) | (obtain ⟨_, e, _⟩ := h; subst e; exact rfl) | (obtain ⟨_, _, e, _⟩ := h; subst e; exact rfl) | (obtain ⟨_, _, _, e, _⟩ := h; subst e; exact rfl) | (obtain ⟨_, _, _, _, e, _⟩ := h; subst e; exact rfl) | (obtain ⟨_, _, _, _, _, e, _⟩ := h; subst e; exact rfl) | (obtain ⟨_, _, _, _, _, _, e, _⟩ := h; subst e; exact rfl) | (obtain ⟨_, _, _, _, _, _, _, e, _⟩ := h; subst e; exact rfl) | (obtain ⟨_, _, _, _, _, _, _, _, e, _⟩ := h; subst e; exact rfl) | (obtain ⟨_, _, _, _, _, _, _, _, _, e, _⟩ := h; subst e; exact rfl) | (obtain ⟨_, _, _, _, _, _, _, _, _, _, e, _⟩ := h; subst e; exact rfl) | (obtain ⟨_, _, _, _, _, _, _, _, _, _, _, e, _⟩ := h; subst e; exact rfl) | (obtain ⟨_, _, _, _, _, _, _, _, _, _, _, _, e, _⟩ := h; subst e; exact rfl))) (fun cdv A outer s H vs Q E hr h => ?_)
  
  refine ⟨_, PSs.nox (pss_cons (ps_if (pt_not (pt_val (pe_callB (k_isi (P := P) (w := w) (K := K) rfl rfl rfl) rfl T.b_isinstance boot_isinstance (pa_cons (pv 1) (pa_cons (pe_bltn (v := .ty "tuple") rfl T.b_tuple boot_tuple rfl) pa_nil))))) (pss_cons (ps_ret (pe_tup (pa_cons (pe_un un_neg pe_int) (pa_cons (pe_frz (pe_lst pa_nil)) pa_nil)))) pss_nil) pss_nil) (pss_cons (ps_set (i := 2) sc_walked.nd rfl (by first | exact Or.inl rfl | exact Or.inr rfl) (pe_lst (pa_cons (pe_tup (pa_cons (q_fld (K := K) rfl (pv 0) rfl) (pa_cons (q_fld (K := K) rfl (pv 0) rfl) pa_nil))) pa_nil))) (pss_cons (ps_set (i := 3) sc_walked.nd rfl (by first | exact Or.inl rfl | exact Or.inr rfl) (pe_lst pa_nil)) (pss_cons (ps_for PassesOwn.never rfl (q_enumT (K := K) rfl rfl T.b_enumerate (pa_cons (pv 1) pa_nil)) (q_gtup (K := K) rfl rfl (pgs_cons (pg_name (i := 4) sc_walked.nd rfl (by first | exact Or.inl rfl | exact Or.inr rfl)) (pgs_cons (pg_name (i := 5) sc_walked.nd rfl (by first | exact Or.inl rfl | exact Or.inr rfl)) pgs_nil))) (pss_cons (ps_if (pt_cmpR op_eq (pe_callB (k_len (K := K) rfl) rfl T.b_len boot_len (pa_cons (pv 2) pa_nil)) pe_int (nomark _)) (pss_cons ps_no pss_nil) pss_nil) (pss_cons (ps_set (i := 6) sc_walked.nd rfl (by first | exact Or.inl rfl | exact Or.inr rfl) (q_pop (K := K) rfl (pv 2))) (pss_cons (ps_set (i := 7) sc_walked.nd rfl (by first | exact Or.inl rfl | exact Or.inr rfl) (pe_call (c_states_behind.F.mono (by decide)) hr rfl T.g_states_behind c_states_behind.kp c_states_behind.b .nil pass0 (pa_cons (q_fld (K := K) rfl (pv 0) rfl) (pa_cons (pv 6) (pa_cons (pv 5) pa_nil))))) (pss_cons (ps_if (pt_cmpR op_isNo (pv 7) pe_non (nomark _)) (pss_frz 3 (pss_cons (ps_ret (pe_tup (pa_cons (pv 4) (pa_cons (pv 3) pa_nil)))) pss_nil)) pss_nil) (pss_cons ps_no (pss_cons ps_no pss_nil))))))) (pss_frz 3 (pss_cons (ps_ret (pe_tup (pa_cons (pe_ifExp (pt_cmpR op_eq (pe_callB (k_len (K := K) rfl) rfl T.b_len boot_len (pa_cons (pv 2) pa_nil)) pe_int (nomark _)) pe_no (pe_callB (k_len (K := K) rfl) rfl T.b_len boot_len (pa_cons (pv 1) pa_nil))) (pa_cons (pv 3) pa_nil)))) pss_nil)))))), ?_⟩
  refine read_of P w K h rfl fun rs k D hs hD hN => ?_
  obtain ⟨n, E', B', r, i, rfl, hn, hc, hk⟩ := hs
  rcases hc with ⟨⟨t, ht, h2⟩, rfl⟩ | ⟨rfl, rfl⟩ | ⟨d, m, hle, hm, hd, rfl⟩
  · (refine ws_if ?_; refine wt_not ?_; refine wt_B ?_; (first | refine we_cb ?_ | refine we_xlen ?_); refine wa_cons ?_; refine we_var rfl ?_; refine wa_cons ?_; refine we_c ?_; refine wa_nil ?_)
    refine ct_isi ht (.ty _) h2 ?_
    refine ⟨_, rfl, fun _ => ?_, fun z => nomatch z⟩
    (refine ws_retS (by assumption) ?_; refine we_tup ?_; refine wa_cons ?_; refine we_un ?_; refine we_c ?_; refine ut_I ?_; refine wa_cons ?_; (refine we_frzL ?_; refine wl_lst ?_); refine wa_nil ?_; refine ⟨Nat.le_of_ble_eq_true rfl, ?_⟩; refine wa_nil ?_; refine ⟨Nat.le_of_ble_eq_true rfl, ?_⟩)
    exact hk
  · (refine ws_if ?_; refine wt_not ?_; refine wt_B ?_; (first | refine we_cb ?_ | refine we_xlen ?_); refine wa_cons ?_; refine we_var rfl ?_; refine wa_cons ?_; refine we_c ?_; refine wa_nil ?_)
    refine ct_isi ty_tup (.ty _) (k_tt _) ?_
    (refine ⟨_, rfl, ?_⟩; refine ⟨fun z => Bool.noConfusion (show true = false from by first | exact z | exact z.symm), fun _ => ?_⟩; (first | exact ws_end (by assumption) (by assumption) | refine ws_thru ?_); refine ws_asgL ?_; refine wl_lst ?_; refine wa_cons ?_; refine we_tup ?_; refine wa_cons ?_; refine we_fld ?_; refine we_var rfl ?_)
    refine ⟨_, _, rPs K E', rfl, hS.cl, hS.ne, rfl, ?_⟩
    (refine wa_cons ?_; refine we_fld ?_; refine we_var rfl ?_)
    refine ⟨_, _, rPs K B', rfl, hS.cl, hS.nb, rfl, ?_⟩
    (refine wa_nil ?_; refine ⟨Nat.le_of_ble_eq_true rfl, ?_⟩; refine wa_nil ?_; refine ⟨Nat.le_of_ble_eq_true rfl, ?_⟩; refine ws_asgL ?_; refine wl_lst ?_; refine wa_nil ?_; refine ⟨Nat.le_of_ble_eq_true rfl, ?_⟩)
    refine ws_forQ (fun j (_ : Unit) => True) () (fun _ => [.im (rSy K n E' B'), .im (rTup K []), .ml [rTup K [rPs K E', rPs K B']], .ml [], .no, .no, .no, .no]) ?_
    (refine wi_enumT ?_; refine wa_cons ?_; refine we_var rfl ?_; refine wa_nil ?_; refine ⟨_, rfl, ?_⟩)
    refine ⟨by (repeat' (first | exact Weak.nil | apply Weak.eq | apply Weak.no)), trivial, fun j hj => absurd hj (Nat.not_lt_zero j), fun u hI => ?_⟩
    refine ws_frzL rfl ?_
    refine ws_retS hD ?_
    refine we_tup ?_
    refine wa_cons ?_
    refine we_if ?_
    refine wt_test ?_
    refine we_op ?_
    refine we_lenM rfl ?_
    (refine we_c ?_; refine ot_eq rfl ?_; refine ⟨_, rfl, ?_⟩)
    refine ⟨fun z => absurd (of_decide_eq_true z) (fun e => nomatch e), fun _ => ?_⟩
    ((first | refine we_cb ?_ | refine we_xlen ?_); refine wa_cons ?_; refine we_var rfl ?_; refine wa_nil ?_; (first | refine ct_lenT ?_ | refine ct_lenL ?_); refine wa_cons ?_; refine we_var rfl ?_; refine wa_nil ?_; refine ⟨Nat.le_of_ble_eq_true rfl, ?_⟩)
    exact hk
  · refine ws_le (i := 1) rfl hle ?_
    (refine ws_if ?_; refine wt_not ?_; refine wt_B ?_; (first | refine we_cb ?_ | refine we_xlen ?_); refine wa_cons ?_; refine we_var rfl ?_; refine wa_cons ?_; refine we_c ?_; refine wa_nil ?_)
    refine ct_isi ty_tup (.ty _) (k_tt _) ?_
    (refine ⟨_, rfl, ?_⟩; refine ⟨fun z => Bool.noConfusion (show true = false from by first | exact z | exact z.symm), fun _ => ?_⟩; (first | exact ws_end (by assumption) (by assumption) | refine ws_thru ?_); refine ws_asgL ?_; refine wl_lst ?_; refine wa_cons ?_; refine we_tup ?_; refine wa_cons ?_; refine we_fld ?_; refine we_var rfl ?_)
    refine ⟨_, _, rPs K E', rfl, hS.cl, hS.ne, rfl, ?_⟩
    (refine wa_cons ?_; refine we_fld ?_; refine we_var rfl ?_)
    refine ⟨_, _, rPs K B', rfl, hS.cl, hS.nb, rfl, ?_⟩
    (refine wa_nil ?_; refine ⟨Nat.le_of_ble_eq_true rfl, ?_⟩; refine wa_nil ?_; refine ⟨Nat.le_of_ble_eq_true rfl, ?_⟩; refine ws_asgL ?_; refine wl_lst ?_; refine wa_nil ?_; refine ⟨Nat.le_of_ble_eq_true rfl, ?_⟩)
    refine ws_forQ (fun j (_ : Unit) => j = 0) () (fun _ => [.im (rSy K n E' B'), .im (rTup K (List.replicate (m + 1) (rDt P w K d))), .ml [rTup K [rPs K E', rPs K B']], .ml [], .no, .no, .no, .no]) ?_
    (refine wi_enumT ?_; refine wa_cons ?_; refine we_var rfl ?_; refine wa_nil ?_; refine ⟨_, rfl, ?_⟩)
    refine ⟨by (repeat' (first | exact Weak.nil | apply Weak.eq | apply Weak.no)), rfl, fun j hj u hj0 G st => ?_, fun u hI => absurd hI (by simp)⟩
    subst hj0
    have eg : (List.replicate (m + 1) (rDt P w K d)).getD 0 (rC .non) = rDt P w K d := rfl
    refine ⟨_, _, wg_tup rfl (wgs_cons wg_name (wgs_cons wg_name wgs_nil)), ?_⟩
    rw [eg]
    refine ws_if ?_
    refine wt_test ?_
    refine we_op ?_
    refine we_lenM rfl ?_
    (refine we_c ?_; refine ot_eq rfl ?_; refine ⟨_, rfl, ?_⟩)
    refine ⟨fun z => absurd (of_decide_eq_true z) (fun e => nomatch e), fun _ => ?_⟩
    refine ws_thru ?_
    refine ws_pop (rs := []) rfl ?_
    ((first | refine ws_asg ?_ | refine ws_asgG ?_); refine we_call ?_; refine wa_cons ?_; refine we_fld ?_; refine we_var rfl ?_)
    refine ⟨_, _, rInt (n : Int), rfl, hS.cl, hS.nm, rfl, ?_⟩
    (refine wa_cons ?_; refine we_var rfl ?_; refine wa_cons ?_; refine we_var rfl ?_; refine wa_nil ?_)
    refine ⟨n, _, _, d, rfl, hd, ?_⟩
    (refine ws_if ?_; refine wt_test ?_; refine we_op ?_; refine we_var rfl ?_; refine we_c ?_)
    refine ot_isN0 ?_
    (refine ⟨_, rfl, ?_⟩; refine ⟨fun _ => ?_, fun z => Bool.noConfusion (show true = false from by first | exact z | exact z.symm)⟩; (first | refine ws_frzX rfl ?_ | refine ws_frzL rfl ?_); refine ws_retS (by assumption) ?_; refine we_tup ?_; refine wa_cons ?_; refine we_var rfl ?_; refine wa_cons ?_; refine we_var rfl ?_; refine wa_nil ?_; refine ⟨Nat.le_of_ble_eq_true rfl, ?_⟩)
    exact hk
def S_cover_fault (P : Program) (w : World) (K : PySem.W.Frag) : Spc := fun rs k => ∃ (n : Nat) (E B : List PT) (r : Rel) (i : Int), rs = [rSy K n E B, r] ∧ n ≤ 4 ∧ CovF P w K r i ∧ k (rInt i)
theorem ok_cover_fault {P : Program} {w : World} {K : PySem.W.Frag} {mg : Str → Option Value} {base : Heap} {f : Addr} {fd fd_walked : FuncData} (T : Txt K mg) (F : FunD K "cover_fault" "cover_fault" (defArgs s_cover_fault) (defBody s_cover_fault) (defScope s_cover_fault) [] [] f fd) (c_walked : Callee P w K mg base (He.ga K "walked") fd_walked ["system", "cover"] 2 (spOf (S_walked P w K)))  :
    FnOk P w K mg base CX0 3 f fd ["system", "thing"] (spOf (S_cover_fault P w K)) := by
  refine F.ok sc_cover_fault (len_of (by intro rs k h; first | (obtain ⟨e, _⟩ := h; subst e; exact rfl) | (obtain ⟨_, e, _⟩ := h; subst e; exact rfl) | (obtain ⟨_, _, e, _⟩ := h; subst e; exact rfl) | (obtain ⟨_, _, _, e, _⟩ := h; subst e; exact rfl) | (obtain ⟨_, _, _, _, e, _⟩ := h; subst e; exact rfl) | (obtain ⟨_, _, _, _, _, e, _⟩ := h; subst e; exact rfl) | (obtain ⟨_, _, _, _, _, _, e, _⟩ := h; subst e; exact rfl) | (obtain ⟨_, _, _, _, _, _, _, e, _⟩ := h; subst e; exact rfl) | (obtain ⟨_, _, _, _, _, _, _, _, e, _⟩ := h; subst e; exact rfl) | (obtain ⟨_, _, _, _, _, _, _, _, _, e, _⟩ := h; subst e; exact rfl) | (obtain ⟨_, _, _, _, _, _, _, _, _, _, e, _⟩ := h; subst e; exact rfl) | (obtain ⟨_, _, _, _, _, _, _, _, _, _, _, e, _⟩ := h; subst e; exact rfl) | (obtain ⟨_, _, _, _, _, _, _, _, _, _, _, _, e, _⟩ := h; subst e; exact rfl))) (fun cdv A outer s H vs Q E hr h => ?_)
  
  refine ⟨_, PSs.nox (pss_cons (ps_ret (pe_ix (k_ixT (K := K) rfl) (pe_call (c_walked.F.mono (by decide)) hr rfl T.g_walked c_walked.kp c_walked.b .nil pass0 (pa_cons (pv 0) (pa_cons (pv 1) pa_nil))) pe_int (fun _ _ => rfl))) pss_nil), ?_⟩
  refine read_of P w K h rfl fun rs k D hs hD hN => ?_
  obtain ⟨n, E', B', r, i, rfl, hn, hc, hk⟩ := hs
  (refine ws_retS (by assumption) ?_; refine we_op ?_; refine we_call ?_; refine wa_cons ?_; refine we_var rfl ?_; refine wa_cons ?_; refine we_var rfl ?_; refine wa_nil ?_)
  refine ⟨n, E', B', r, i, rfl, hn, hc, ?_⟩
  (refine we_c ?_)
  exact ot_ixT (r := rInt i) rfl hk
def S_is_cover (P : Program) (w : World) (K : PySem.W.Frag) : Spc := fun rs k => ∃ (n : Nat) (E B : List PT) (r : Rel) (i : Int), rs = [rSy K n E B, r] ∧ n ≤ 4 ∧ CovF P w K r i ∧ k (rBl false)
theorem ok_is_cover {P : Program} {w : World} {K : PySem.W.Frag} {mg : Str → Option Value} {base : Heap} {f : Addr} {fd fd_cover_fault : FuncData} (T : Txt K mg) (F : FunD K "is_cover" "is_cover" (defArgs s_is_cover) (defBody s_is_cover) (defScope s_is_cover) [] [] f fd) (c_cover_fault : Callee P w K mg base (He.ga K "cover_fault") fd_cover_fault ["system", "thing"] 3 (spOf (S_cover_fault P w K)))  :
    FnOk P w K mg base CX0 4 f fd ["system", "thing"] (spOf (S_is_cover P w K)) := by
  refine F.ok sc_is_cover (len_of (by intro rs k h; first | (obtain ⟨e, _⟩ := h; subst e; exact rfl) | (obtain ⟨_, e, _⟩ := h; subst e; exact rfl) | (obtain ⟨_, _, e, _⟩ := h; subst e; exact rfl) | (obtain ⟨_, _, _, e, _⟩ := h; subst e; exact rfl) | (obtain ⟨_, _, _, _, e, _⟩ := h; subst e; exact rfl) | (obtain ⟨_, _, _, _, _, e, _⟩ := h; subst e; exact rfl) | (obtain ⟨_, _, _, _, _, _, e, _⟩ := h; subst e; exact rfl) | (obtain ⟨_, _, _, _, _, _, _, e, _⟩ := h; subst e; exact rfl) | (obtain ⟨_, _, _, _, _, _, _, _, e, _⟩ := h; subst e; exact rfl) | (obtain ⟨_, _, _, _, _, _, _, _, _, e, _⟩ := h; subst e; exact rfl) | (obtain ⟨_, _, _, _, _, _, _, _, _, _, e, _⟩ := h; subst e; exact rfl) | (obtain ⟨_, _, _, _, _, _, _, _, _, _, _, e, _⟩ := h; subst e; exact rfl) | (obtain ⟨_, _, _, _, _, _, _, _, _, _, _, _, e, _⟩ := h; subst e; exact rfl))) (fun cdv A outer s H vs Q E hr h => ?_)
  
  refine ⟨_, PSs.nox (pss_cons (ps_ret (pe_cmpR op_isNo (pe_call (c_cover_fault.F.mono (by decide)) hr rfl T.g_cover_fault c_cover_fault.kp c_cover_fault.b .nil pass0 (pa_cons (pv 0) (pa_cons (pv 1) pa_nil))) pe_non (nomark _))) pss_nil), ?_⟩
  refine read_of P w K h rfl fun rs k D hs hD hN => ?_
  obtain ⟨n, E', B', r, i, rfl, hn, hc, hk⟩ := hs
  (refine ws_retS (by assumption) ?_; refine we_op ?_; refine we_call ?_; refine wa_cons ?_; refine we_var rfl ?_; refine wa_cons ?_; refine we_var rfl ?_; refine wa_nil ?_)
  refine ⟨n, E', B', r, i, rfl, hn, hc, ?_⟩
  (refine we_c ?_)
  exact ot_isNi hk
end Lw
set_option Elab.async false
set_option linter.all false
set_option maxRecDepth 100000
set_option maxHeartbeats 4000000
/-! Z6: the law's deep things; what is packed. -/
namespace Lw
open PySem PySem.Spec PyProof.Rows L2 BX EX
theorem ot_ixAny {B : Bd} {k : Rel → Prop} {L : List Rel} {d : Int} (d0 : 0 ≤ d) (d1 : d < L.length) (q : ∀ r ∈ L, k r) : OpT B (rIxL B.K) (rLst L) (rInt d) k := by
  obtain ⟨n, rfl⟩ : ∃ n : Nat, d = n := ⟨d.toNat, (Int.toNat_of_nonneg d0).symm⟩
  have hn : n < L.length := by omega
  exact ot_ixL (r := L[n]) (atI_nat (List.getElem?_eq_getElem hn)) (q _ (List.getElem_mem hn))
/-- a thing j deep -/
def DpN : Nat → Dt → Prop
  | 0, d => d = .non ∨ d = .tup [] ∨ d = .str "x"
  | j + 1, d => (∃ e, DpN j e ∧ (d = .lst [e] ∨ d = .tup [e])) ∨ d = .dic
theorem DpN.ok : ∀ {j : Nat} {d : Dt}, DpN j d → OkM (j + 1) (.dt d)
  | 0, _, .inl rfl => .leaf rfl rfl
  | 0, _, .inr (.inl rfl) => .dtup (Nat.zero_le _) fun _ h => nomatch h
  | 0, _, .inr (.inr rfl) => .leaf rfl rfl
  | j + 1, _, .inl ⟨e, he, .inl rfl⟩ => .dlst (Nat.le_of_ble_eq_true rfl) (fun z => nomatch z) fun d hd => by
    rw [List.mem_singleton.mp hd]
    exact he.ok
  | j + 1, _, .inl ⟨e, he, .inr rfl⟩ => .dtup (Nat.le_of_ble_eq_true rfl) fun d hd => by
    rw [List.mem_singleton.mp hd]
    exact he.ok
  | j + 1, _, .inr rfl => .leaf rfl rfl
def S_L_deep9 (P : Program) (w : World) (K : PySem.W.Frag) : Spc := fun rs k => rs = [rHand P w] ∧ ∀ j d, DpN j d → 14 ≤ j → j ≤ 21 → k (rDt P w K d)
theorem ok_L_deep {P : Program} {w : World} {K : PySem.W.Frag} {mg : Str → Option Value} {base : Heap} {f : Addr} {fd fd_L_draw : FuncData} (T : Txt K mg) (F : FunD K "_law_deep" "_law_deep" (defArgs s_L_deep) (defBody s_L_deep) (defScope s_L_deep) [] [] f fd) (c_L_draw : Callee P w K mg base (He.ga K "_law_draw") fd_L_draw ["_law_hand_here", "_law_many"] 1 (spOf (S_L_draw P w K)))  :
    FnOk P w K mg base CX0 2 f fd ["_law_hand_here"] (spOf (S_L_deep9 P w K)) := by
  refine F.ok sc_L_deep (len_of (by intro rs k h; first | (obtain ⟨e, _⟩ := h; subst e; exact rfl) | (obtain ⟨_, e, _⟩ := h; subst e; exact rfl) | (obtain ⟨_, _, e, _⟩ := h; subst e; exact rfl) | (obtain ⟨_, _, _, e, _⟩ := h; subst e; exact rfl) | (obtain ⟨_, _, _, _, e, _⟩ := h; subst e; exact rfl) | (obtain ⟨_, _, _, _, _, e, _⟩ := h; subst e; exact rfl) | (obtain ⟨_, _, _, _, _, _, e, _⟩ := h; subst e; exact rfl) | (obtain ⟨_, _, _, _, _, _, _, e, _⟩ := h; subst e; exact rfl) | (obtain ⟨_, _, _, _, _, _, _, _, e, _⟩ := h; subst e; exact rfl) | (obtain ⟨_, _, _, _, _, _, _, _, _, e, _⟩ := h; subst e; exact rfl) | (obtain ⟨_, _, _, _, _, _, _, _, _, _, e, _⟩ := h; subst e; exact rfl) | (obtain ⟨_, _, _, _, _, _, _, _, _, _, _, e, _⟩ := h; subst e; exact rfl) | (obtain ⟨_, _, _, _, _, _, _, _, _, _, _, _, e, _⟩ := h; subst e; exact rfl))) (fun cdv A outer s H vs Q E hr h => ?_)
  
  refine ⟨_, PSs.nox (pss_cons (ps_set (i := 1) sc_L_deep.nd rfl (by first | exact Or.inl rfl | exact Or.inr rfl) (pe_ix (k_ixL (K := K) rfl) (pe_frz (pe_lst (pa_cons pe_non (pa_cons (pe_tup pa_nil) (pa_cons pe_str pa_nil))))) (pe_call (c_L_draw.F.mono (by decide)) hr rfl T.g_L_draw c_L_draw.kp c_L_draw.b .nil pass0 (pa_cons (pv 0) (pa_cons pe_int pa_nil))) (fun _ _ => rfl))) (pss_cons (ps_for PassesOwn.never rfl (pi_range1 rfl T.b_range (pa_cons (pe_op op_add pe_int (pe_call (c_L_draw.F.mono (by decide)) hr rfl T.g_L_draw c_L_draw.kp c_L_draw.b .nil pass0 (pa_cons (pv 0) (pa_cons pe_int pa_nil)))) pa_nil)) (pg_name (i := 2) sc_L_deep.nd rfl (by first | exact Or.inl rfl | exact Or.inr rfl)) (pss_cons (ps_set (i := 1) sc_L_deep.nd rfl (by first | exact Or.inl rfl | exact Or.inr rfl) (pe_ix (k_ixL (K := K) rfl) (pe_frz (pe_lst (pa_cons (pe_frz (pe_lst (pa_cons (pv 1) pa_nil))) (pa_cons (pe_tup (pa_cons (pv 1) pa_nil)) (pa_cons (pe_frz (pe_disp (pps_cons pe_int (pv 1) pps_nil) (by rfl) (by rfl) (fun z => by cases z) (by decide))) pa_nil))))) (pe_call (c_L_draw.F.mono (by decide)) hr rfl T.g_L_draw c_L_draw.kp c_L_draw.b .nil pass0 (pa_cons (pv 0) (pa_cons pe_int pa_nil))) (fun _ _ => rfl))) pss_nil)) (pss_cons (ps_ret (pv 1)) pss_nil))), ?_⟩
  refine read_of P w K h rfl fun rs k D hs hD hN => ?_
  obtain ⟨rfl, hk⟩ := hs
  refine ws_asg ?_
  refine we_up ?_
  (refine we_op ?_; (refine we_frzL ?_; refine wl_lst ?_); refine wa_cons ?_; refine we_c ?_; refine wa_cons ?_; refine we_tup ?_; refine wa_nil ?_; refine ⟨Nat.le_of_ble_eq_true rfl, ?_⟩; refine wa_cons ?_; refine we_c ?_; refine wa_nil ?_; refine ⟨Nat.le_of_ble_eq_true rfl, ?_⟩; refine we_call ?_; refine wa_cons ?_; refine we_var rfl ?_; refine wa_cons ?_; refine we_c ?_; refine wa_nil ?_)
  refine ⟨3, rfl, by decide, by decide, fun d d0 d1 => ?_⟩
  refine ot_ixAny d0 d1 fun r hr => ?_
  obtain ⟨d, hd, h0⟩ : ∃ d, LeD P w K r d ∧ DpN 0 d := by
    simp only [List.mem_cons, List.not_mem_nil, or_false] at hr
    rcases hr with rfl | rfl | rfl
    · exact ⟨_, le_non, .inl rfl⟩
    · exact ⟨.tup [], by (repeat (first | exact le_dt | exact le_int | exact le_intC | exact le_bl | exact le_non | exact le_str | exact le_dct | exact le_dic | refine le_tup ?_ | refine le_lst ?_ | exact LeDs.nil | refine LeDs.cons ?_ ?_)), .inr (.inl rfl)⟩
    · exact ⟨_, le_str, .inr (.inr rfl)⟩
  refine ⟨_, hd, ?_⟩
  refine ws_forQ (fun j (d : Dt) => DpN j d) d (fun d => [.im (rHand P w), .im (rDt P w K d), .no]) ?_
  (refine wi_rng1 ?_; refine wa_cons ?_; refine we_op ?_; refine we_c ?_; refine we_call ?_; refine wa_cons ?_; refine we_var rfl ?_; refine wa_cons ?_; refine we_c ?_; refine wa_nil ?_)
  refine ⟨8, rfl, by decide, by decide, fun m m0 m1 => ?_⟩
  (refine ot_I0 ?_; refine wa_nil ?_; refine ⟨_, rfl, ?_⟩)
  refine ⟨by omega, by omega, by (repeat' (first | exact Weak.nil | apply Weak.eq | apply Weak.no)), h0, fun j hj d hI G st => ?_, fun d hI => ?_⟩
  · refine ⟨_, _, wg_name, ?_⟩
    refine ws_asg ?_
    refine we_up ?_
    (refine we_op ?_; (refine we_frzL ?_; refine wl_lst ?_); refine wa_cons ?_; (refine we_frzL ?_; refine wl_lst ?_); refine wa_cons ?_; refine we_var rfl ?_; refine wa_nil ?_; refine ⟨Nat.le_of_ble_eq_true rfl, ?_⟩; refine wa_cons ?_; refine we_tup ?_; refine wa_cons ?_; refine we_var rfl ?_; refine wa_nil ?_; refine ⟨Nat.le_of_ble_eq_true rfl, ?_⟩; refine wa_cons ?_)
    refine we_frzD ?_
    refine wd_one (kk := .inl 0) ?_
    (refine we_var rfl ?_; refine wa_nil ?_; refine ⟨Nat.le_of_ble_eq_true rfl, ?_⟩; refine we_call ?_; refine wa_cons ?_; refine we_var rfl ?_; refine wa_cons ?_; refine we_c ?_; refine wa_nil ?_)
    refine ⟨3, rfl, by decide, by decide, fun d2 d0 d1 => ?_⟩
    refine ot_ixAny d0 d1 fun r hr => ?_
    obtain ⟨d3, hd, hp⟩ : ∃ d3, LeD P w K r d3 ∧ DpN (j + 1) d3 := by
      simp only [List.mem_cons, List.not_mem_nil, or_false] at hr
      rcases hr with rfl | rfl | rfl
      · exact ⟨.lst [d], by (repeat (first | exact le_dt | exact le_int | exact le_intC | exact le_bl | exact le_non | exact le_str | exact le_dct | exact le_dic | refine le_tup ?_ | refine le_lst ?_ | exact LeDs.nil | refine LeDs.cons ?_ ?_)), .inl ⟨d, hI, .inl rfl⟩⟩
      · exact ⟨.tup [d], by (repeat (first | exact le_dt | exact le_int | exact le_intC | exact le_bl | exact le_non | exact le_str | exact le_dct | exact le_dic | refine le_tup ?_ | refine le_lst ?_ | exact LeDs.nil | refine LeDs.cons ?_ ?_)), .inl ⟨d, hI, .inr rfl⟩⟩
      · exact ⟨_, le_dic, .inr rfl⟩
    exact ⟨_, hd, fun σ H E => ⟨d3, hp, E.wk (by (repeat' (first | exact Weak.nil | apply Weak.eq | apply Weak.no)))⟩⟩
  · (refine ws_retS (by assumption) ?_; refine we_var rfl ?_)
    exact hk _ d hI (by omega) (by omega)
/-- what is packed, n deep -/
def S_L_packed9 (n : Nat) (P : Program) (w : World) (K : PySem.W.Frag) : Spc := fun rs k => ∃ (m : Nat) (x : Md), rs = [rMd P w K x] ∧ n = m + 1 ∧ OkM m x ∧ k (rPk P w K x)
theorem ok_L_packed_n {P : Program} {w : World} {K : PySem.W.Frag} {mg : Str → Option Value} {base : Heap} {fd fd_L_is_marked fd_Poly_init : FuncData} (T : Txt K mg) (F : FunD K "_law_packed" "_law_packed" (defArgs s_L_packed) (defBody s_L_packed) (defScope s_L_packed) [] [] (He.ga K "_law_packed") fd)
    (c_L_is_marked : Callee P w K mg base (He.ga K "_law_is_marked") fd_L_is_marked ["_law_thing"] 1 (spOf (S_L_is_marked9 P w K))) (c_Poly_init : CalleeX P w K mg base (He.ma K (He.ga K "Poly") "__init__") fd_Poly_init ["self", "terms"] 4 (spMkX (He.ga K "Poly") (S_Poly_initX P w K))) :
    ∀ n, FnOk P w K mg base CX0 (n + 6) (He.ga K "_law_packed") fd ["_law_thing"] (spOf (S_L_packed9 n P w K)) := by
  intro n
  induction n with
  | zero => exact ⟨fun vs H Q E ⟨rs, k, _, ⟨m, x, _, z, _⟩, _⟩ => by omega, fun A outer s H args us vs Q E hr e0 hb hv ⟨rs, k, _, ⟨m, x, _, z, _⟩, _⟩ => by omega⟩
  | succ n ih =>
  have c_L_packed : Callee P w K mg base (He.ga K "_law_packed") fd ["_law_thing"] (n + 6) (spOf (S_L_packed9 n P w K)) := ⟨F.kp, F.bindsN fun _ _ _ _ _ _ us hl => match us, hl with | [_], _ => rfl, ih⟩
  rw [show n + 1 + 6 = (n + 6) + 1 from by omega]
  refine F.ok sc_L_packed (len_of (by intro rs k h; first | (obtain ⟨e, _⟩ := h; subst e; exact rfl) | (obtain ⟨_, e, _⟩ := h; subst e; exact rfl) | (obtain ⟨_, _, e, _⟩ := h; subst e; exact rfl) | (obtain ⟨_, _, _, e, _⟩ := h; subst e; exact rfl) | (obtain ⟨_, _, _, _, e, _⟩ := h; subst e; exact rfl) | (obtain ⟨_, _, _, _, _, e, _⟩ := h; subst e; exact rfl) | (obtain ⟨_, _, _, _, _, _, e, _⟩ := h; subst e; exact rfl) | (obtain ⟨_, _, _, _, _, _, _, e, _⟩ := h; subst e; exact rfl) | (obtain ⟨_, _, _, _, _, _, _, _, e, _⟩ := h; subst e; exact rfl) | (obtain ⟨_, _, _, _, _, _, _, _, _, e, _⟩ := h; subst e; exact rfl) | (obtain ⟨_, _, _, _, _, _, _, _, _, _, e, _⟩ := h; subst e; exact rfl) | (obtain ⟨_, _, _, _, _, _, _, _, _, _, _, e, _⟩ := h; subst e; exact rfl) | (obtain ⟨_, _, _, _, _, _, _, _, _, _, _, _, e, _⟩ := h; subst e; exact rfl))) (fun cdv A outer s H vs Q E hr h => ?_)
  refine ⟨_, PSs.nox (pss_cons (ps_if (pt_val (pe_call (c_L_is_marked.F.mono (by omega)) hr rfl T.g_L_is_marked c_L_is_marked.kp c_L_is_marked.b .nil pass0 (pa_cons (pv 0) pa_nil))) (pss_cons (ps_ret (pe_make (k := n + 5) T.m_Poly (c_Poly_init.F.mono (by omega)) hr rfl T.c_Poly c_Poly_init.b .nil passL (pa_cons (pe_callTy (k_tupleOf (K := K) rfl) rfl T.b_tuple boot_tuple (pa_cons (pe_frz (pe_lc (own := [("_law_powers", 2)]) (g := gName 2) (tt := tYes) rfl sc_L_packed.nd (q_list (K := K) rfl (pe_frz (pe_callB (k_xsorted (P := P) (w := w) (K := K) rfl rfl rfl rfl hr.units) rfl T.b_sorted boot_sorted (pa_cons (pe_ix (k_ixL (K := K) rfl) (pv 0) pe_int (fun _ _ => rfl)) pa_nil)))) (blkOk_by (own := [("_law_powers", 2)]) (N := ["_law_thing", "_law_item", "_law_powers"]) (sc := defScope s_L_packed) (by decide +kernel)) (fun _ _ _ _ _ => (pg_name (i := 2) sc_L_packed.nd rfl (by first | exact Or.inl rfl | exact Or.inr rfl))) (fun _ _ _ _ _ => pts_nil) (fun _ _ _ _ _ => (pe_tup (pa_cons (pv 2) (pa_cons (q_get (P := P) (w := w) (K := K) rfl rfl rfl (hu_of hr) (pe_ix (k_ixL (K := K) rfl) (pv 0) pe_int (fun _ _ => rfl)) (pv 2) (fun _ _ => rfl)) pa_nil)))))) pa_nil)) pa_nil))) pss_nil) pss_nil) (pss_cons (ps_if (pt_val (pe_callB (k_isi (P := P) (w := w) (K := K) rfl rfl rfl) rfl T.b_isinstance boot_isinstance (pa_cons (pv 0) (pa_cons (pe_bltn (v := .ty "tuple") rfl T.b_tuple boot_tuple rfl) pa_nil)))) (pss_cons (ps_ret (pe_callTy (k_tupleOf (K := K) rfl) rfl T.b_tuple boot_tuple (pa_cons (pe_frz (pe_lc (own := [("_law_item", 1)]) (g := gName 1) (tt := tYes) rfl sc_L_packed.nd (q_tup (K := K) rfl (pv 0)) (blkOk_by (own := [("_law_item", 1)]) (N := ["_law_thing", "_law_item", "_law_powers"]) (sc := defScope s_L_packed) (by decide +kernel)) (fun _ _ _ _ _ => (pg_name (i := 1) sc_L_packed.nd rfl (by first | exact Or.inl rfl | exact Or.inr rfl))) (fun _ _ _ _ _ => pts_nil) (fun _ _ _ _ _ => (pe_call (c_L_packed.F.mono (by omega)) hr rfl T.g_L_packed c_L_packed.kp c_L_packed.b .nil pass0 (pa_cons (pv 1) pa_nil))))) pa_nil))) pss_nil) pss_nil) (pss_cons (ps_ret (pe_ifExp (pt_val (pe_callB (k_isi (P := P) (w := w) (K := K) rfl rfl rfl) rfl T.b_isinstance boot_isinstance (pa_cons (pv 0) (pa_cons (pe_bltn (v := .ty "list") rfl T.b_list boot_list rfl) pa_nil)))) (pe_frz (pe_lc (own := [("_law_item", 1)]) (g := gName 1) (tt := tYes) rfl sc_L_packed.nd (q_list (K := K) rfl (pv 0)) (blkOk_by (own := [("_law_item", 1)]) (N := ["_law_thing", "_law_item", "_law_powers"]) (sc := defScope s_L_packed) (by decide +kernel)) (fun _ _ _ _ _ => (pg_name (i := 1) sc_L_packed.nd rfl (by first | exact Or.inl rfl | exact Or.inr rfl))) (fun _ _ _ _ _ => pts_nil) (fun _ _ _ _ _ => (pe_call (c_L_packed.F.mono (by omega)) hr rfl T.g_L_packed c_L_packed.kp c_L_packed.b .nil pass0 (pa_cons (pv 1) pa_nil))))) (pv 0))) pss_nil))), ?_⟩
  refine read_of P w K h rfl fun rs k D hs hD hN => ?_
  obtain ⟨m, x, rfl, hm, hx, hk⟩ := hs
  obtain rfl : m = n := by omega
  have hE0 : RzK H (fun _ _ => False) E0 := ⟨fun _ _ h => h.elim, fun _ _ _ _ _ h => h.elim⟩
  (refine ws_if ?_; refine wt_B ?_; refine we_call ?_; refine wa_cons ?_; refine we_var rfl ?_; refine wa_nil ?_)
  refine ⟨m, x, rfl, hx, ?_⟩
  refine ⟨_, rfl, fun h => ?_, fun h => ?_⟩
  · cases x with
    | mk m' =>
      have hm : TsB m' := by cases hx; assumption
      rw [rPk_mk] at hk
      rw [rMd_mk]
      refine ws_retS hD ?_
      refine we_makeX (e := fun _ _ => False) hE0 ?_
      (refine wa_cons ?_; (first | refine we_cb ?_ | refine we_xlen ?_); refine wa_cons ?_; refine we_frzL ?_)
      have hz : ((m'.map (·.1)).mergeSort keyLe).length ≤ sizeLine := by
        rw [List.length_mergeSort, List.length_map]
        have := hm.len
        rw [sizeLine_eq]
        omega
      refine wl_lcM ((m'.map (·.1)).mergeSort keyLe) (g := rKey K) (h := fun x => rTup K [rKey K x, rInt (cf m' x)]) ?_
      (refine wi_list ?_; (first | (refine we_frzX ?_; refine wx_xpairs ?_) | (refine we_frzL ?_; first | refine wl_xsorted ?_ | refine wl_xitems ?_ | refine wl_listT ?_)); refine wq_e ?_; refine we_op ?_; refine we_var rfl ?_; refine we_c ?_)
      refine ot_ixL (r := rDI P w K m') rfl ?_
      refine ⟨mI m', rfl, fun p hp => ?_, ?_⟩
      · obtain ⟨e, he, rfl⟩ := List.mem_map.mp hp
        intro z
        have := (hm.b60 e he).len
        rw [show e.1 = [] from z] at this
        cases this
      rw [mI_keys]
      (refine ⟨_, rfl, ?_⟩)
      refine ⟨by rw [List.length_map], fun i hi => getD_map hi, hz, fun x hx G st => ?_, ?_⟩
      · refine ⟨_, _, ?_, wg_name, ?_⟩
        · intro j hj; exact hj
        · (refine we_tup ?_; refine wa_cons ?_; refine we_var rfl ?_; refine wa_cons ?_; refine we_xget ?_; refine wq_e ?_; refine we_op ?_; refine we_var rfl ?_; refine we_c ?_)
          refine ot_ixL (r := rDI P w K m') rfl ?_
          refine ⟨mI m', rfl, ?_⟩
          (refine we_var rfl ?_)
          refine ⟨x, _, rfl, key_get (List.mem_mergeSort.mp hx), ?_⟩
          (refine wa_nil ?_; refine ⟨Nat.le_of_ble_eq_true rfl, ?_⟩)
          rfl
      · (refine wa_nil ?_; refine ct_tuple ?_; refine wa_nil ?_)
        have hcan := can_canon hm.nd
        have hb60 : Bx ⟨60, 60, 60, 60⟩ (canon m') := Bx.canon hm.b60
        have hw := wrong_tms (Nat.le_trans (canon_len m') hm.len) hb60 hcan
        refine ⟨[(fT, rTms K (canon m'))], _, ⟨.tup ((canon m').map tmDt), ?_, by rw [rDt_tms], fun _ => trivial, fun i h => (by rw [hw] at h; cases h)⟩, fun _ => hk⟩
        rw [rDt_tms, canon_nz hm.nd hm.nz]
        show [rTup K _] = [rTup K _]
        rw [List.map_map]
        rfl
    | _ => cases h
  · refine ws_thru ?_
    cases hx with
    | mk => cases h
    | @leaf _ d g1 g2 =>
      (refine ws_if ?_; refine wt_B ?_; (first | refine we_cb ?_ | refine we_xlen ?_); refine wa_cons ?_; refine we_var rfl ?_; refine wa_cons ?_; refine we_c ?_; refine wa_nil ?_)
      refine ct_isi (tyM_ok (.dt d)) (.ty _) (kit_tup' (.dt d)) ?_
      rw [show (elems (.dt d)).isSome = false by cases d <;> first | rfl | exact Bool.noConfusion (show true = false from g2)]
      refine ⟨_, rfl, (fun z => nomatch z), fun _ => ?_⟩
      ((first | exact ws_end (by assumption) (by assumption) | refine ws_thru ?_); refine ws_retS (by assumption) ?_; refine we_if ?_; refine wt_B ?_; (first | refine we_cb ?_ | refine we_xlen ?_); refine wa_cons ?_; refine we_var rfl ?_; refine wa_cons ?_; refine we_c ?_; refine wa_nil ?_)
      refine ct_isi (tyM_ok (.dt d)) (.ty _) (kit_list' (.dt d)) ?_
      rw [show isLsM (.dt d) = false by cases d <;> first | rfl | exact Bool.noConfusion (show true = false from g1)]
      refine ⟨_, rfl, (fun z => nomatch z), fun _ => ?_⟩
      rw [rMd_dt]
      rw [rPk_dt] at hk
      (refine we_var rfl ?_)
      exact hk
    | @tup m l hl hx =>
      rw [rMd_tup]
      rw [rPk_tup] at hk
      (refine ws_if ?_; refine wt_B ?_; (first | refine we_cb ?_ | refine we_xlen ?_); refine wa_cons ?_; refine we_var rfl ?_; refine wa_cons ?_; refine we_c ?_; refine wa_nil ?_)
      refine ct_isi ty_tup (.ty _) (k_tt _) ?_
      refine ⟨_, rfl, fun _ => ?_, fun z => nomatch z⟩
      (refine ws_retS (by assumption) ?_; (first | refine we_cb ?_ | refine we_xlen ?_); refine wa_cons ?_; refine we_frzL ?_)
      refine wl_lcM l (g := rMd P w K) (h := rPk P w K) ?_
      (refine wi_tup ?_; refine we_var rfl ?_; refine ⟨_, rfl, ?_⟩)
      refine ⟨by rw [List.length_map], fun i hi => getD_map2 hi, by rw [sizeLine_eq]; omega, fun y hy G st => ?_, ?_⟩
      · refine ⟨_, _, ?_, wg_name, ?_⟩
        · intro j hj; exact hj
        · (refine we_call ?_; refine wa_cons ?_; refine we_var rfl ?_; refine wa_nil ?_)
          exact ⟨m, y, rfl, rfl, hx y hy, rfl⟩
      · (refine wa_nil ?_; refine ct_tuple ?_)
        exact hk
    | @lst m l hl hx =>
      rw [rMd_lst]
      rw [rPk_lst] at hk
      (refine ws_if ?_; refine wt_B ?_; (first | refine we_cb ?_ | refine we_xlen ?_); refine wa_cons ?_; refine we_var rfl ?_; refine wa_cons ?_; refine we_c ?_; refine wa_nil ?_)
      refine ct_isi ty_lst (.ty _) (show _ = Option.some false from kit_tup' (.lst l)) ?_
      refine ⟨_, rfl, (fun z => nomatch z), fun _ => ?_⟩
      ((first | exact ws_end (by assumption) (by assumption) | refine ws_thru ?_); refine ws_retS (by assumption) ?_; refine we_if ?_; refine wt_B ?_; (first | refine we_cb ?_ | refine we_xlen ?_); refine wa_cons ?_; refine we_var rfl ?_; refine wa_cons ?_; refine we_c ?_; refine wa_nil ?_)
      refine ct_isi ty_lst (.ty _) (k_ll _) ?_
      refine ⟨_, rfl, fun _ => ?_, fun z => nomatch z⟩
      (refine we_frzL ?_)
      refine wl_lcM l (g := rMk P w K) (h := rPo K) ?_
      (refine wi_list ?_; refine we_var rfl ?_; refine ⟨_, rfl, ?_⟩)
      refine ⟨by rw [List.length_map], fun i hi => getD_map hi, by rw [sizeLine_eq]; omega, fun y hy G st => ?_, ?_⟩
      · refine ⟨_, _, ?_, wg_name, ?_⟩
        · intro j hj; exact hj
        · (refine we_call ?_; refine wa_cons ?_; refine we_var rfl ?_; refine wa_nil ?_)
          exact ⟨m, .mk y, by rw [rMd_mk], rfl, .mk (hx y hy), by rw [rPk_mk]⟩
      · exact hk
    | @dtup m l hl hx =>
      rw [rMd_dt, rDt_tup]
      rw [rPk_dt, rDt_tup] at hk
      (refine ws_if ?_; refine wt_B ?_; (first | refine we_cb ?_ | refine we_xlen ?_); refine wa_cons ?_; refine we_var rfl ?_; refine wa_cons ?_; refine we_c ?_; refine wa_nil ?_)
      refine ct_isi ty_tup (.ty _) (k_tt _) ?_
      refine ⟨_, rfl, fun _ => ?_, fun z => nomatch z⟩
      (refine ws_retS (by assumption) ?_; (first | refine we_cb ?_ | refine we_xlen ?_); refine wa_cons ?_; refine we_frzL ?_)
      refine wl_lcM l (g := rDt P w K) (h := rDt P w K) ?_
      (refine wi_tup ?_; refine we_var rfl ?_; refine ⟨_, rfl, ?_⟩)
      refine ⟨by rw [List.length_map], fun i hi => getD_map2 hi, by rw [sizeLine_eq]; omega, fun y hy G st => ?_, ?_⟩
      · refine ⟨_, _, ?_, wg_name, ?_⟩
        · intro j hj; exact hj
        · (refine we_call ?_; refine wa_cons ?_; refine we_var rfl ?_; refine wa_nil ?_)
          exact ⟨m, .dt y, by rw [rMd_dt], rfl, hx y hy, by rw [rPk_dt]⟩
      · (refine wa_nil ?_; refine ct_tuple ?_)
        exact hk
    | @dlst m l hl h2 hx =>
      rw [rMd_dt, rDt_lst]
      rw [rPk_dt, rDt_lst] at hk
      (refine ws_if ?_; refine wt_B ?_; (first | refine we_cb ?_ | refine we_xlen ?_); refine wa_cons ?_; refine we_var rfl ?_; refine wa_cons ?_; refine we_c ?_; refine wa_nil ?_)
      refine ct_isi ty_lst (.ty _) (show _ = Option.some false from kit_tup' (.lst [])) ?_
      refine ⟨_, rfl, (fun z => nomatch z), fun _ => ?_⟩
      ((first | exact ws_end (by assumption) (by assumption) | refine ws_thru ?_); refine ws_retS (by assumption) ?_; refine we_if ?_; refine wt_B ?_; (first | refine we_cb ?_ | refine we_xlen ?_); refine wa_cons ?_; refine we_var rfl ?_; refine wa_cons ?_; refine we_c ?_; refine wa_nil ?_)
      refine ct_isi ty_lst (.ty _) (k_ll _) ?_
      refine ⟨_, rfl, fun _ => ?_, fun z => nomatch z⟩
      (refine we_frzL ?_)
      refine wl_lcM l (g := rDt P w K) (h := rDt P w K) ?_
      (refine wi_list ?_; refine we_var rfl ?_; refine ⟨_, rfl, ?_⟩)
      refine ⟨by rw [List.length_map], fun i hi => getD_map2 hi, by rw [sizeLine_eq]; omega, fun y hy G st => ?_, ?_⟩
      · refine ⟨_, _, ?_, wg_name, ?_⟩
        · intro j hj; exact hj
        · (refine we_call ?_; refine wa_cons ?_; refine we_var rfl ?_; refine wa_nil ?_)
          exact ⟨m, .dt y, by rw [rMd_dt], rfl, hx y hy, by rw [rPk_dt]⟩
      · exact hk
theorem ok_L_packed {P : Program} {w : World} {K : PySem.W.Frag} {mg : Str → Option Value} {base : Heap} {fd fd_L_is_marked fd_Poly_init : FuncData} (T : Txt K mg) (F : FunD K "_law_packed" "_law_packed" (defArgs s_L_packed) (defBody s_L_packed) (defScope s_L_packed) [] [] (He.ga K "_law_packed") fd)
    (c_L_is_marked : Callee P w K mg base (He.ga K "_law_is_marked") fd_L_is_marked ["_law_thing"] 1 (spOf (S_L_is_marked9 P w K))) (c_Poly_init : CalleeX P w K mg base (He.ma K (He.ga K "Poly") "__init__") fd_Poly_init ["self", "terms"] 4 (spMkX (He.ga K "Poly") (S_Poly_initX P w K))) :
    FnOk P w K mg base CX0 36 (He.ga K "_law_packed") fd ["_law_thing"] (spOf (S_L_packed9 30 P w K)) := ok_L_packed_n T F c_L_is_marked c_Poly_init 30
end Lw
set_option Elab.async false
set_option linter.all false
set_option maxRecDepth 100000
set_option maxHeartbeats 4000000
/-! Z7: what is unpacked; the law's judge. -/
namespace Lw
open PySem PySem.Spec PyProof.Rows L2 BX EX
theorem tb_can {m : PT} (h : TsB m) : Tb (canon m) := ⟨(can_canon h.nd).nd, (Bx.canon h.b60).n4⟩
def S_L_unp1 (P : Program) (w : World) (K : PySem.W.Frag) : Spc := fun rs k => ∃ m : PT, rs = [rPo K m] ∧ TsB m ∧ k (rMk P w K (canon m))
theorem ok_L_unp1 {P : Program} {w : World} {K : PySem.W.Frag} {mg : Str → Option Value} {base : Heap} {fd fd_L_mark : FuncData} (T : Txt K mg) (F : FunD K "_law_unpacked" "_law_unpacked" (defArgs s_L_unpacked) (defBody s_L_unpacked) (defScope s_L_unpacked) [] [] (He.ga K "_law_unpacked") fd)
    (c_L_mark : Callee P w K mg base (He.ga K "_law_mark") fd_L_mark ["_law_parts"] 1 (spOf (S_L_mark P w K))) (hC : PolyC K (CP K)) :
    FnOk P w K mg base CX0 2 (He.ga K "_law_unpacked") fd ["_law_thing"] (spOf (S_L_unp1 P w K)) := by
  refine F.ok sc_L_unpacked (len_of (by intro rs k h; first | (obtain ⟨e, _⟩ := h; subst e; exact rfl) | (obtain ⟨_, e, _⟩ := h; subst e; exact rfl) | (obtain ⟨_, _, e, _⟩ := h; subst e; exact rfl) | (obtain ⟨_, _, _, e, _⟩ := h; subst e; exact rfl) | (obtain ⟨_, _, _, _, e, _⟩ := h; subst e; exact rfl) | (obtain ⟨_, _, _, _, _, e, _⟩ := h; subst e; exact rfl) | (obtain ⟨_, _, _, _, _, _, e, _⟩ := h; subst e; exact rfl) | (obtain ⟨_, _, _, _, _, _, _, e, _⟩ := h; subst e; exact rfl) | (obtain ⟨_, _, _, _, _, _, _, _, e, _⟩ := h; subst e; exact rfl) | (obtain ⟨_, _, _, _, _, _, _, _, _, e, _⟩ := h; subst e; exact rfl) | (obtain ⟨_, _, _, _, _, _, _, _, _, _, e, _⟩ := h; subst e; exact rfl) | (obtain ⟨_, _, _, _, _, _, _, _, _, _, _, e, _⟩ := h; subst e; exact rfl) | (obtain ⟨_, _, _, _, _, _, _, _, _, _, _, _, e, _⟩ := h; subst e; exact rfl))) (fun cdv A outer s H vs Q E hr h => ?_)
  refine ⟨_, PSs.nox (pss_cons (ps_if (pt_val (pe_callB (k_isi (P := P) (w := w) (K := K) rfl rfl rfl) rfl T.b_isinstance boot_isinstance (pa_cons (pv 0) (pa_cons (pe_glob (v := .ref (He.ga K "Poly")) rfl T.c_Poly rfl) pa_nil)))) (pss_cons (ps_ret (pe_call (c_L_mark.F.mono (by decide)) hr rfl T.g_L_mark c_L_mark.kp c_L_mark.b .nil pass0 (pa_cons (pe_frz (pe_callTy (k_xpairs (P := P) (w := w) (K := K) rfl rfl rfl rfl hr.units) rfl T.b_dict boot_dict (pa_cons (pe_frz (pe_callTy (k_listOf (K := K) rfl) rfl T.b_list boot_list (pa_cons (q_fld (K := K) rfl (pv 0) rfl) pa_nil))) pa_nil))) pa_nil))) pss_nil) pss_nil) (pss_cons ps_no (pss_cons ps_no pss_nil))), ?_⟩
  refine read_of P w K h rfl fun rs k D hs hD hN => ?_
  obtain ⟨m, rfl, hm, hk⟩ := hs
  (refine ws_if ?_; refine wt_B ?_; (first | refine we_cb ?_ | refine we_xlen ?_); refine wa_cons ?_; refine we_var rfl ?_; refine wa_cons ?_)
  refine we_c ?_
  (refine wa_nil ?_)
  refine ct_isi hC.ty (.own _) hC.ki ?_
  refine ⟨_, rfl, fun _ => ?_, fun z => nomatch z⟩
  (refine ws_retS (by assumption) ?_; refine we_call ?_; refine wa_cons ?_; (first | (refine we_frzX ?_; refine wx_xpairs ?_) | (refine we_frzL ?_; first | refine wl_xsorted ?_ | refine wl_xitems ?_ | refine wl_listT ?_)); (first | (refine we_frzX ?_; refine wx_xpairs ?_) | (refine we_frzL ?_; first | refine wl_xsorted ?_ | refine wl_xitems ?_ | refine wl_listT ?_)); refine we_fld ?_; refine we_var rfl ?_)
  refine ⟨CP K, _, rTms K (canon m), rfl, hC.cl, hC.na, rfl, _, .inl rfl, mI (canon m), ?_, ?_⟩
  · rw [List.map_map]
    rfl
  (refine wa_nil ?_)
  refine ⟨_, rfl, ?_⟩
  rw [mI_foldM, foldM_tb (tb_can hm)]
  exact hk
def S_L_unpacked9 (P : Program) (w : World) (K : PySem.W.Frag) : Spc := fun rs k => ∃ E : List PT, rs = [rPs K E] ∧ E.length ≤ 1000 ∧ (∀ m ∈ E, TsB m) ∧ k (rTup K (E.map fun m => rMk P w K (canon m)))
theorem ok_L_unpacked {P : Program} {w : World} {K : PySem.W.Frag} {mg : Str → Option Value} {base : Heap} {fd fd_L_mark : FuncData} (T : Txt K mg) (F : FunD K "_law_unpacked" "_law_unpacked" (defArgs s_L_unpacked) (defBody s_L_unpacked) (defScope s_L_unpacked) [] [] (He.ga K "_law_unpacked") fd)
    (c_L_mark : Callee P w K mg base (He.ga K "_law_mark") fd_L_mark ["_law_parts"] 1 (spOf (S_L_mark P w K))) (hC : PolyC K (CP K)) (hPo : NoPo K) :
    FnOk P w K mg base CX0 3 (He.ga K "_law_unpacked") fd ["_law_thing"] (spOf (S_L_unpacked9 P w K)) := by
  have c_L_unpacked : Callee P w K mg base (He.ga K "_law_unpacked") fd ["_law_thing"] 2 (spOf (S_L_unp1 P w K)) := ⟨F.kp, F.bindsN fun _ _ _ _ _ _ us hl => match us, hl with | [_], _ => rfl, ok_L_unp1 T F c_L_mark hC⟩
  refine F.ok sc_L_unpacked (len_of (by intro rs k h; first | (obtain ⟨e, _⟩ := h; subst e; exact rfl) | (obtain ⟨_, e, _⟩ := h; subst e; exact rfl) | (obtain ⟨_, _, e, _⟩ := h; subst e; exact rfl) | (obtain ⟨_, _, _, e, _⟩ := h; subst e; exact rfl) | (obtain ⟨_, _, _, _, e, _⟩ := h; subst e; exact rfl) | (obtain ⟨_, _, _, _, _, e, _⟩ := h; subst e; exact rfl) | (obtain ⟨_, _, _, _, _, _, e, _⟩ := h; subst e; exact rfl) | (obtain ⟨_, _, _, _, _, _, _, e, _⟩ := h; subst e; exact rfl) | (obtain ⟨_, _, _, _, _, _, _, _, e, _⟩ := h; subst e; exact rfl) | (obtain ⟨_, _, _, _, _, _, _, _, _, e, _⟩ := h; subst e; exact rfl) | (obtain ⟨_, _, _, _, _, _, _, _, _, _, e, _⟩ := h; subst e; exact rfl) | (obtain ⟨_, _, _, _, _, _, _, _, _, _, _, e, _⟩ := h; subst e; exact rfl) | (obtain ⟨_, _, _, _, _, _, _, _, _, _, _, _, e, _⟩ := h; subst e; exact rfl))) (fun cdv A outer s H vs Q E hr h => ?_)
  refine ⟨_, PSs.nox (pss_cons (ps_if (pt_val (pe_callB (k_isi (P := P) (w := w) (K := K) rfl rfl rfl) rfl T.b_isinstance boot_isinstance (pa_cons (pv 0) (pa_cons (pe_glob (v := .ref (He.ga K "Poly")) rfl T.c_Poly rfl) pa_nil)))) (pss_cons (ps_ret (pe_call (c_L_mark.F.mono (by decide)) hr rfl T.g_L_mark c_L_mark.kp c_L_mark.b .nil pass0 (pa_cons (pe_frz (pe_callTy (k_xpairs (P := P) (w := w) (K := K) rfl rfl rfl rfl hr.units) rfl T.b_dict boot_dict (pa_cons (pe_frz (pe_callTy (k_listOf (K := K) rfl) rfl T.b_list boot_list (pa_cons (q_fld (K := K) rfl (pv 0) rfl) pa_nil))) pa_nil))) pa_nil))) pss_nil) pss_nil) (pss_cons (ps_if (pt_val (pe_callB (k_isi (P := P) (w := w) (K := K) rfl rfl rfl) rfl T.b_isinstance boot_isinstance (pa_cons (pv 0) (pa_cons (pe_bltn (v := .ty "tuple") rfl T.b_tuple boot_tuple rfl) pa_nil)))) (pss_cons (ps_ret (pe_callTy (k_tupleOf (K := K) rfl) rfl T.b_tuple boot_tuple (pa_cons (pe_frz (pe_lc (own := [("_law_item", 1)]) (g := gName 1) (tt := tYes) rfl sc_L_unpacked.nd (q_tup (K := K) rfl (pv 0)) (blkOk_by (own := [("_law_item", 1)]) (N := ["_law_thing", "_law_item"]) (sc := defScope s_L_unpacked) (by decide +kernel)) (fun _ _ _ _ _ => (pg_name (i := 1) sc_L_unpacked.nd rfl (by first | exact Or.inl rfl | exact Or.inr rfl))) (fun _ _ _ _ _ => pts_nil) (fun _ _ _ _ _ => (pe_call (c_L_unpacked.F.mono (by decide)) hr rfl T.g_L_unpacked c_L_unpacked.kp c_L_unpacked.b .nil pass0 (pa_cons (pv 1) pa_nil))))) pa_nil))) pss_nil) pss_nil) (pss_cons ps_no pss_nil))), ?_⟩
  refine read_of P w K h rfl fun rs k D hs hD hN => ?_
  obtain ⟨E', rfl, hl, hm, hk⟩ := hs
  (refine ws_if ?_; refine wt_B ?_; (first | refine we_cb ?_ | refine we_xlen ?_); refine wa_cons ?_; refine we_var rfl ?_; refine wa_cons ?_)
  refine we_c ?_
  (refine wa_nil ?_)
  refine ct_isi ty_tup (.own _) (show _ = Option.some false from hPo (.tup []) rfl) ?_
  refine ⟨_, rfl, (fun z => nomatch z), fun _ => ?_⟩
  ((first | exact ws_end (by assumption) (by assumption) | refine ws_thru ?_); refine ws_if ?_; refine wt_B ?_; (first | refine we_cb ?_ | refine we_xlen ?_); refine wa_cons ?_; refine we_var rfl ?_; refine wa_cons ?_; refine we_c ?_; refine wa_nil ?_)
  refine ct_isi ty_tup (.ty _) (k_tt _) ?_
  refine ⟨_, rfl, fun _ => ?_, fun z => nomatch z⟩
  (refine ws_retS (by assumption) ?_; (first | refine we_cb ?_ | refine we_xlen ?_); refine wa_cons ?_; refine we_frzL ?_)
  refine wl_lcM E' (g := rPo K) (h := fun m => rMk P w K (canon m)) ?_
  (refine wi_tup ?_; refine we_var rfl ?_; refine ⟨_, rfl, ?_⟩)
  refine ⟨by rw [List.length_map], fun i hi => getD_map hi, by rw [sizeLine_eq]; omega, fun y hy G st => ?_, ?_⟩
  · refine ⟨_, _, ?_, wg_name, ?_⟩
    · intro j hj; exact hj
    · (refine we_call ?_; refine wa_cons ?_; refine we_var rfl ?_; refine wa_nil ?_)
      exact ⟨y, rfl, hm y hy, rfl⟩
  · (refine wa_nil ?_; refine ct_tuple ?_)
    exact hk
/-! the law's own judge -/
def S_L_wrong9 (P : Program) (w : World) (K : PySem.W.Frag) : Spc := fun rs k => ∃ (j : Nat) (md : Dt) (x y : Md), rs = [rDt P w K md, rMd P w K x, rMd P w K y] ∧ OkM j x ∧ OkM j y ∧ (wrongS md x y = none → k rNon) ∧ ∀ r, wrongS md x y = Option.some r → k (rWr K r)
theorem wrongS_noint {md : Dt} {x y : Md} (h : isIntD md = false) : wrongS md x y = Option.some (.s "many") := wrongS_many (by cases md <;> first | rfl | cases h)
theorem ok_L_wrong {P : Program} {w : World} {K : PySem.W.Frag} {mg : Str → Option Value} {base : Heap} {f : Addr} {fd fd_L_is_in fd_L_is_int : FuncData} (T : Txt K mg) (F : FunD K "_law_wrong" "_law_wrong" (defArgs s_L_wrong) (defBody s_L_wrong) (defScope s_L_wrong) [] [] f fd) (c_L_is_in : Callee P w K mg base (He.ga K "_law_is_in") fd_L_is_in ["_law_thing", "_law_many"] 2 (spOf (S_L_is_in9 P w K))) (c_L_is_int : Callee P w K mg base (He.ga K "_law_is_int") fd_L_is_int ["_law_thing"] 1 (spOf (S_L_is_int P w K)))  :
    FnOk P w K mg base CX0 3 f fd ["_law_many", "_law_equations", "_law_barred"] (spOf (S_L_wrong9 P w K)) := by
  refine F.ok sc_L_wrong (len_of (by intro rs k h; first | (obtain ⟨e, _⟩ := h; subst e; exact rfl) | (obtain ⟨_, e, _⟩ := h; subst e; exact rfl) | (obtain ⟨_, _, e, _⟩ := h; subst e; exact rfl) | (obtain ⟨_, _, _, e, _⟩ := h; subst e; exact rfl) | (obtain ⟨_, _, _, _, e, _⟩ := h; subst e; exact rfl) | (obtain ⟨_, _, _, _, _, e, _⟩ := h; subst e; exact rfl) | (obtain ⟨_, _, _, _, _, _, e, _⟩ := h; subst e; exact rfl) | (obtain ⟨_, _, _, _, _, _, _, e, _⟩ := h; subst e; exact rfl) | (obtain ⟨_, _, _, _, _, _, _, _, e, _⟩ := h; subst e; exact rfl) | (obtain ⟨_, _, _, _, _, _, _, _, _, e, _⟩ := h; subst e; exact rfl) | (obtain ⟨_, _, _, _, _, _, _, _, _, _, e, _⟩ := h; subst e; exact rfl) | (obtain ⟨_, _, _, _, _, _, _, _, _, _, _, e, _⟩ := h; subst e; exact rfl) | (obtain ⟨_, _, _, _, _, _, _, _, _, _, _, _, e, _⟩ := h; subst e; exact rfl))) (fun cdv A outer s H vs Q E hr h => ?_)
  
  refine ⟨_, PSs.nox (pss_cons (ps_if (PW.pt (pw_or (pt_not (pt_val (pe_call (c_L_is_int.F.mono (by decide)) hr rfl T.g_L_is_int c_L_is_int.kp c_L_is_int.b .nil pass0 (pa_cons (pv 0) pa_nil)))) (pw_or1 (pt_not (pt_chain op_le op_le pe_int (pv 0) pe_int))))) (pss_cons (ps_ret pe_str) pss_nil) pss_nil) (pss_cons (ps_for PassesOwn.never rfl (q_list (K := K) rfl (pe_frz (pe_lst (pa_cons (pe_tup (pa_cons (pv 1) (pa_cons pe_str (pa_cons pe_str pa_nil)))) (pa_cons (pe_tup (pa_cons (pv 2) (pa_cons pe_str (pa_cons pe_str pa_nil)))) pa_nil))))) (q_gtup (K := K) rfl rfl (pgs_cons (pg_name (i := 3) sc_L_wrong.nd rfl (by first | exact Or.inl rfl | exact Or.inr rfl)) (pgs_cons (pg_name (i := 4) sc_L_wrong.nd rfl (by first | exact Or.inl rfl | exact Or.inr rfl)) (pgs_cons (pg_name (i := 5) sc_L_wrong.nd rfl (by first | exact Or.inl rfl | exact Or.inr rfl)) pgs_nil)))) (pss_cons (ps_if (PW.pt (pw_or (pt_not (pt_val (pe_callB (k_isi (P := P) (w := w) (K := K) rfl rfl rfl) rfl T.b_isinstance boot_isinstance (pa_cons (pv 3) (pa_cons (pe_bltn (v := .ty "tuple") rfl T.b_tuple boot_tuple rfl) pa_nil))))) (pw_or1 (pt_cmpR op_gt (pe_callB (k_len (K := K) rfl) rfl T.b_len boot_len (pa_cons (pv 3) pa_nil)) pe_int (nomark _))))) (pss_cons (ps_ret (pv 5)) pss_nil) pss_nil) (pss_cons (ps_for PassesOwn.never rfl (pi_range1 rfl T.b_range (pa_cons (pe_callB (k_len (K := K) rfl) rfl T.b_len boot_len (pa_cons (pv 3) pa_nil)) pa_nil)) (pg_name (i := 6) sc_L_wrong.nd rfl (by first | exact Or.inl rfl | exact Or.inr rfl)) (pss_cons (ps_if (pt_not (pt_val (pe_call (c_L_is_in.F.mono (by decide)) hr rfl T.g_L_is_in c_L_is_in.kp c_L_is_in.b .nil pass0 (pa_cons (pe_ix (k_ixT (K := K) rfl) (pv 3) (pv 6) (fun _ _ => rfl)) (pa_cons (pv 0) pa_nil))))) (pss_cons (ps_ret (pe_tup (pa_cons (pv 4) (pa_cons (pv 6) pa_nil)))) pss_nil) pss_nil) pss_nil)) pss_nil))) (pss_cons (ps_ret pe_non) pss_nil))), ?_⟩
  refine read_of P w K h rfl fun rs k D hs hD hN => ?_
  obtain ⟨j, md, x, y, rfl, hx, hy, hk, he⟩ := hs
  (refine ws_if ?_; refine wt_or ?_; refine wt_not ?_; refine wt_B ?_; refine we_call ?_; refine wa_cons ?_; refine we_var rfl ?_; refine wa_nil ?_)
  refine ⟨md, rfl, ?_⟩
  refine ⟨_, rfl, fun h => ⟨fun _ => ?_, fun z => nomatch z⟩, fun h => ?_⟩
  · (refine ws_retS (by assumption) ?_; refine we_c ?_)
    exact he _ (wrongS_noint (by simpa using h))
  cases md with
  | int i =>
    rw [rDt_int]
    (refine wt_not ?_; refine wt_test ?_; refine we_chain ?_; refine we_c ?_; refine we_var rfl ?_; refine ot_I0 ?_; refine ⟨_, rfl, ?_⟩)
    have out : inD (.int i) 1 3 = false → k (rStr "many") := fun z => he _ (wrongS_many z)
    refine ⟨fun h1 => ?_, fun h1 => ?_⟩
    rotate_left
    · refine ⟨_, rfl, fun _ => ?_, fun z => nomatch z⟩
      (refine ws_retS (by assumption) ?_; refine we_c ?_)
      exact out (by rw [inD_int, h1]; rfl)
    (refine we_c ?_; refine ot_I0 ?_; refine ⟨_, rfl, ?_⟩)
    refine ⟨fun h2 => ?_, fun h2 => ?_⟩
    · (refine ws_retS (by assumption) ?_; refine we_c ?_)
      exact out (by rw [inD_int, show decide (i ≤ 3) = false by simpa using h2, Bool.and_false])
    have h2 : decide (i ≤ 3) = true := by simpa using h2
    obtain ⟨n, en, h0, h3'⟩ := in13 (md := .int i) (by rw [inD_int, h1, h2]; rfl)
    injection en with en
    subst en
    rw [wrongS_in h0 h3'] at hk he
    clear out
    refine ws_thru ?_
    refine ws_forQ (fun i (_ : Unit) => (1 ≤ i → rowsW n x "equation" "equations" = none) ∧ (2 ≤ i → rowsW n y "barred" "barred" = none)) () (fun _ => [.im (rInt (n : Int)), .im (rMd P w K x), .im (rMd P w K y), .no, .no, .no, .no]) ?_
    (refine wi_list ?_; (refine we_frzL ?_; refine wl_lst ?_); refine wa_cons ?_; refine we_tup ?_; refine wa_cons ?_; refine we_var rfl ?_; refine wa_cons ?_; refine we_c ?_; refine wa_cons ?_; refine we_c ?_; refine wa_nil ?_; refine ⟨Nat.le_of_ble_eq_true rfl, ?_⟩; refine wa_cons ?_; refine we_tup ?_; refine wa_cons ?_; refine we_var rfl ?_; refine wa_cons ?_; refine we_c ?_; refine wa_cons ?_; refine we_c ?_; refine wa_nil ?_; refine ⟨Nat.le_of_ble_eq_true rfl, ?_⟩; refine wa_nil ?_; refine ⟨Nat.le_of_ble_eq_true rfl, ?_⟩; refine ⟨_, rfl, ?_⟩)
    refine ⟨by (repeat' (first | exact Weak.nil | apply Weak.eq | apply Weak.no)), ⟨fun h => absurd h (by decide), fun h => absurd h (by decide)⟩, fun i hi u hI G st => ?_, fun u hI => ?_⟩
    · obtain ⟨z, one, every, e1, hz, hno, hyes⟩ : ∃ (z : Md) (one every : Str), ([rTup K [rMd P w K x, rStr "equation", rStr "equations"], rTup K [rMd P w K y, rStr "barred", rStr "barred"]] : List Rel).getD i (rC .non) = rTup K [rMd P w K z, rStr one, rStr every] ∧ OkM j z ∧
          (rowsW n z one every = none → (1 ≤ i + 1 → rowsW n x "equation" "equations" = none) ∧ (2 ≤ i + 1 → rowsW n y "barred" "barred" = none)) ∧ ∀ r, rowsW n z one every = Option.some r → k (rWr K r) := by
        match i, hi, hI with
        | 0, _, _ => exact ⟨x, "equation", "equations", rfl, hx, fun e => ⟨fun _ => e, fun h => absurd h (by omega)⟩, fun r hr => he r (by rw [hr])⟩
        | 1, _, hI =>
          have hx0 := hI.1 (Nat.le_refl 1)
          exact ⟨y, "barred", "barred", rfl, hy, fun e => ⟨fun _ => hx0, fun _ => e⟩, fun r hr => he r (by rw [hx0]; exact hr)⟩
        | i + 2, hi, _ => exact absurd hi (by simp)
      have eg : (fun i => ([rTup (bd P w K H).K [rMd P w K x, rC (.str "equation"), rC (.str "equations")], rTup (bd P w K H).K [rMd P w K y, rC (.str "barred"), rC (.str "barred")]] : List Rel).getD i (rC .non)) i = rTup K [rMd P w K z, rStr one, rStr every] := e1
      rw [eg]
      refine ⟨_, _, wg_tup rfl (wgs_cons wg_name (wgs_cons wg_name (wgs_cons wg_name wgs_nil))), ?_⟩
      (refine ws_if ?_; refine wt_or ?_; refine wt_not ?_; refine wt_B ?_; (first | refine we_cb ?_ | refine we_xlen ?_); refine wa_cons ?_; refine we_var rfl ?_; refine wa_cons ?_; refine we_c ?_; refine wa_nil ?_)
      refine ct_isi (tyM_ok z) (.ty _) (kit_tup' z) ?_
      refine ⟨_, rfl, fun h => ⟨fun _ => ?_, fun z => nomatch z⟩, fun h => ?_⟩
      · (refine ws_retS (by assumption) ?_; refine we_var rfl ?_)
        exact hyes _ (rowsW_non (by cases e : elems z with | none => rfl | some l => rw [e] at h; cases h))
      obtain ⟨l, el⟩ : ∃ l, elems z = Option.some l := by
        cases e : elems z with
        | none => rw [e] at h; cases h
        | some l => exact ⟨l, rfl⟩
      have hl2 := hz.el el
      rw [rMd_el el]
      (refine wt_test ?_; refine we_op ?_; (first | refine we_cb ?_ | refine we_xlen ?_); refine wa_cons ?_; refine we_var rfl ?_; refine wa_nil ?_; (first | refine ct_lenT ?_ | refine ct_lenL ?_); refine we_c ?_; refine ot_I0 ?_; refine ⟨_, rfl, ?_⟩)
      rw [List.length_map]
      refine ⟨fun h3 => ?_, fun h3 => ?_⟩
      · have h3 : l.length > 6 := by have := of_decide_eq_true h3; omega
        (refine ws_retS (by assumption) ?_; refine we_var rfl ?_)
        exact hyes _ (rowsW_long el h3)
      have h3 : ¬ l.length > 6 := by have := of_decide_eq_false h3; omega
      refine ws_thru ?_
      refine ws_forQ (fun j' (_ : Unit) => ∀ i', i' < j' → badU n l i' = false) () (fun _ => [.im (rInt (n : Int)), .im (rMd P w K x), .im (rMd P w K y), .im (rTup K (l.map (rMd P w K))), .im (rStr one), .im (rStr every), .no]) ?_
      (refine wi_rng1 ?_; refine wa_cons ?_; (first | refine we_cb ?_ | refine we_xlen ?_); refine wa_cons ?_; refine we_var rfl ?_; refine wa_nil ?_; (first | refine ct_lenT ?_ | refine ct_lenL ?_); refine wa_nil ?_; refine ⟨_, rfl, ?_⟩)
      refine ⟨by omega, by rw [List.length_map]; omega, by (repeat' (first | exact Weak.nil | apply Weak.eq | apply Weak.no)), fun i hi => absurd hi (Nat.not_lt_zero i), fun j' hj u hI2 G2 st2 => ?_, fun u hI2 => ?_⟩
      · have hj : j' < l.length := by simpa using hj
        have next : badU n l j' = false → ∀ i', i' < j' + 1 → badU n l i' = false := fun hb i' hi => by
          rcases Nat.lt_succ_iff_lt_or_eq.mp hi with z | z
          · exact hI2 i' z
          · rw [z]; exact hb
        have ee : l.getD j' (.dt .non) = l[j'] := by rw [List.getD_eq_getElem?_getD, List.getElem?_eq_getElem hj]; rfl
        refine ⟨_, _, wg_name, ?_⟩
        (refine ws_if ?_; refine wt_not ?_; refine wt_B ?_; refine we_call ?_; refine wa_cons ?_; refine we_op ?_; refine we_var rfl ?_; refine we_var rfl ?_)
        refine ot_ixT (r := rMd P w K l[j']) (atI_nat (by rw [List.getElem?_map, List.getElem?_eq_getElem hj]; rfl)) ?_
        (refine wa_cons ?_; refine we_var rfl ?_; refine wa_nil ?_)
        refine ⟨j, l[j'], n, rfl, hl2.2 _ (List.getElem_mem hj), h0, h3', ?_⟩
        refine ⟨_, rfl, fun h => ?_, fun h => ?_⟩
        · have hb : badU n l j' = true := by
            unfold badU
            rw [ee]
            simpa using h
          (refine ws_retS (by assumption) ?_; refine we_tup ?_; refine wa_cons ?_; refine we_var rfl ?_; refine wa_cons ?_; refine we_var rfl ?_; refine wa_nil ?_; refine ⟨Nat.le_of_ble_eq_true rfl, ?_⟩)
          exact hyes _ (rowsW_one el h3 hj hb hI2)
        · have hb : badU n l j' = false := by
            unfold badU
            rw [ee]
            simpa using h
          ((first | exact ws_end (by assumption) (by assumption) | refine ws_thru ?_))
          exact fun σ H E => ⟨(), next hb, E.wk (by (repeat' (first | exact Weak.nil | apply Weak.eq | apply Weak.no)))⟩
      · have hno' := hno (rowsW_no el h3 fun i hi => hI2 i (by simpa using hi))
        skip
        exact fun σ H E => ⟨(), hno', E.wk (by (repeat' (first | exact Weak.nil | apply Weak.eq | apply Weak.no)))⟩
    · (refine ws_retS (by assumption) ?_; refine we_c ?_)
      refine hk ?_
      rw [hI.1 (by simp)]
      exact hI.2 (by simp)
  | _ => cases h
end Lw
set_option Elab.async false
set_option linter.all false
set_option maxRecDepth 100000
set_option maxHeartbeats 4000000
/-! Z8: a system made, or refused. -/
namespace Lw
open PySem PySem.Spec PyProof.Rows L2 BX EX
abbrev BS (K : PySem.W.Frag) : Addr := He.ga K "BadSystem"
structure ErF (K : PySem.W.Frag) : Prop where
  cl : ExcC K (BS K)
  xf : XfC K (BS K) ∧ PySem.W.findIn K (.ref (BS K)) "part" = Option.some none
  eb : PySem.W.exmOne K (.ref (BS K)) (.ref (BS K)) = Option.some true
  rt : PySem.W.kitOne K (.ref (BS K)) (.ref (He.ga K "RootError")) = Option.some true
  ve : PySem.W.kitOne K (.ref (BS K)) (.type "ValueError") = Option.some true
theorem boot_ValueError : bootBuiltins "ValueError" = Option.some (.type "ValueError") := PyProof.Rows.Boot.«ValueError»
theorem rows_mk {n : Nat} {x : Md} {one every : Str} (h : rowsW n x one every = none) : ∃ E : List PT, elems x = Option.some (E.map .mk) ∧ E.length ≤ 6 := by
  cases el : elems x with
  | none => rw [rowsW_non el] at h; cases h
  | some l =>
    by_cases hl : l.length > 6
    · rw [rowsW_long el hl] at h; cases h
    have hall : ∀ i (hi : i < l.length), isUM n l[i] = true := by
      intro i hi
      unfold rowsW at h
      rw [el] at h
      have h : (if l.length > 6 then Option.some (Wr.s every) else ((List.range l.length).find? (badU n l)).map fun i => Wr.at one i) = none := h
      rw [if_neg hl, Option.map_eq_none_iff, List.find?_eq_none] at h
      have := h i (List.mem_range.mpr hi)
      unfold badU at this
      rw [List.getD_eq_getElem?_getD, List.getElem?_eq_getElem hi] at this
      simpa using this
    have key : ∀ l : List Md, (∀ y ∈ l, isMk y = true) → ∃ E : List PT, l = E.map .mk := by
      intro l
      induction l with
      | nil => exact fun _ => ⟨[], rfl⟩
      | cons y l ih =>
        intro h
        obtain ⟨E, rfl⟩ := ih fun z hz => h z (List.mem_cons_of_mem _ hz)
        have hy := h y List.mem_cons_self
        cases y with
        | mk m => exact ⟨m :: E, rfl⟩
        | _ => cases hy
    obtain ⟨E, rfl⟩ := key l fun y hy => by
      obtain ⟨i, hi, rfl⟩ := List.mem_iff_getElem.mp hy
      have := hall i hi
      cases e : l[i] with
      | mk m => rfl
      | _ => rw [e] at this; cases this
    exact ⟨E, rfl, by rw [List.length_map] at hl; omega⟩
theorem wrong_right {md : Dt} {x y : Md} (h : wrongS md x y = none) : ∃ (n : Nat) (E B : List PT), md = .int (n : Int) ∧ 0 < n ∧ n ≤ 3 ∧ elems x = Option.some (E.map .mk) ∧ E.length ≤ 6 ∧ elems y = Option.some (B.map .mk) ∧ B.length ≤ 6 := by
  cases hm : inD md 1 3 with
  | false => rw [wrongS_many hm] at h; cases h
  | true =>
    obtain ⟨n, rfl, h0, h3⟩ := in13 hm
    rw [wrongS_in h0 h3] at h
    cases h1 : rowsW n x "equation" "equations" with
    | some r => rw [h1] at h; cases h
    | none =>
      rw [h1] at h
      obtain ⟨E, e1, e2⟩ := rows_mk h1
      obtain ⟨B, b1, b2⟩ := rows_mk h
      exact ⟨n, E, B, rfl, h0, h3, e1, e2, b1, b2⟩
theorem rows_rMd {P : Program} {w : World} {K : PySem.W.Frag} {x : Md} {E : List PT} (h : elems x = Option.some (E.map .mk)) : rMd P w K x = rTup K (E.map (rMk P w K)) := by
  rw [rMd_el h, List.map_map, show (rMd P w K ∘ Md.mk) = rMk P w K from funext fun m => rMd_mk P w K m]
theorem rows_rPk {P : Program} {w : World} {K : PySem.W.Frag} {x : Md} {E : List PT} (h : elems x = Option.some (E.map .mk)) : rPk P w K x = rPs K E := by
  rw [rPk_el h, List.map_map, show (rPk P w K ∘ Md.mk) = rPo K from funext fun m => rPk_mk P w K m]
theorem rows_ok {j : Nat} {x : Md} {E : List PT} (h : elems x = Option.some (E.map .mk)) (hx : OkM j x) : ∀ m ∈ E, TsB m := fun m hm => by
  have := (hx.el h).2 (.mk m) (List.mem_map.mpr ⟨m, hm, rfl⟩)
  cases this
  assumption
/-- what is told of a system -/
abbrev rTold (P : Program) (w : World) (K : PySem.W.Frag) (n : Nat) (E B : List PT) : Rel := rTup K [rStr "told", rTup K [rInt (n : Int), rTup K (E.map fun m => rMk P w K (canon m)), rTup K (B.map fun m => rMk P w K (canon m))]]
abbrev rRef (K : PySem.W.Frag) (r : Wr) : Rel := rTup K [rStr "refused", rWr K r]
def S_L_made9 (P : Program) (w : World) (K : PySem.W.Frag) : Spc := fun rs k => ∃ (j : Nat) (md : Dt) (x y : Md), rs = [rDt P w K md, rMd P w K x, rMd P w K y] ∧ OkM j x ∧ OkM j y ∧ j ≤ 29 ∧
  (∀ n E B, wrongS md x y = none → md = .int (n : Nat) → elems x = Option.some (E.map .mk) → elems y = Option.some (B.map .mk) → k (rTold P w K n E B)) ∧ ∀ r, wrongS md x y = Option.some r → k (rRef K r)
theorem ok_L_made {P : Program} {w : World} {K : PySem.W.Frag} {mg : Str → Option Value} {base : Heap} {f : Addr} {fd fd_L_unpacked fd_System_init fd_L_packed : FuncData} (T : Txt K mg) (F : FunD K "_law_made" "_law_made" (defArgs s_L_made) (defBody s_L_made) (defScope s_L_made) [] [] f fd) (c_L_unpacked : Callee P w K mg base (He.ga K "_law_unpacked") fd_L_unpacked ["_law_thing"] 3 (spOf (S_L_unpacked9 P w K))) (c_System_init : CalleeX P w K mg base (He.ma K (He.ga K "System") "__init__") fd_System_init ["self", "many", "equations", "barred"] 4 (spMkY (He.ga K "System") (S_System_initY P w K))) (c_L_packed : Callee P w K mg base (He.ga K "_law_packed") fd_L_packed ["_law_thing"] 36 (spOf (S_L_packed9 30 P w K))) (EF : ErF K) (hS : SyC K) :
    FnOk P w K mg base CX0 37 f fd ["_law_many", "_law_equations", "_law_barred"] (spOf (S_L_made9 P w K)) := by
  refine F.ok sc_L_made (len_of (by intro rs k h; first | (obtain ⟨e, _⟩ := h; subst e; exact rfl) | (obtain ⟨_, e, _⟩ := h; subst e; exact rfl) | (obtain ⟨_, _, e, _⟩ := h; subst e; exact rfl) | (obtain ⟨_, _, _, e, _⟩ := h; subst e; exact rfl) | (obtain ⟨_, _, _, _, e, _⟩ := h; subst e; exact rfl) | (obtain ⟨_, _, _, _, _, e, _⟩ := h; subst e; exact rfl) | (obtain ⟨_, _, _, _, _, _, e, _⟩ := h; subst e; exact rfl) | (obtain ⟨_, _, _, _, _, _, _, e, _⟩ := h; subst e; exact rfl) | (obtain ⟨_, _, _, _, _, _, _, _, e, _⟩ := h; subst e; exact rfl) | (obtain ⟨_, _, _, _, _, _, _, _, _, e, _⟩ := h; subst e; exact rfl) | (obtain ⟨_, _, _, _, _, _, _, _, _, _, e, _⟩ := h; subst e; exact rfl) | (obtain ⟨_, _, _, _, _, _, _, _, _, _, _, e, _⟩ := h; subst e; exact rfl) | (obtain ⟨_, _, _, _, _, _, _, _, _, _, _, _, e, _⟩ := h; subst e; exact rfl))) (fun cdv A outer s H vs Q E hr h => ?_)
  
  refine ⟨_, PSs.nox (pss_cons (ps_tryT (i := 4) (c := .ref (He.ga K "BadSystem")) (Wout := fun _ _ _ _ => False) rfl rfl sc_L_made.nd rfl rfl ⟨rfl, by decide, .inl T.c_BadSystem⟩ takes0 (fun W pn xe tk _ => (pss_cons (ps_set (i := 3) sc_L_made.nd rfl (by first | exact Or.inl rfl | exact Or.inr rfl) (pe_make (k := 35) T.m_System (c_System_init.F.mono (by decide)) hr rfl T.c_System c_System_init.b .nil (passW tk rfl) (pa_cons (pv 0) (pa_cons (pe_call (c_L_packed.F.mono (by decide)) hr rfl T.g_L_packed c_L_packed.kp c_L_packed.b .nil pass0 (pa_cons (pv 1) pa_nil)) (pa_cons (pe_call (c_L_packed.F.mono (by decide)) hr rfl T.g_L_packed c_L_packed.kp c_L_packed.b .nil pass0 (pa_cons (pv 2) pa_nil)) pa_nil))))) pss_nil)) (fun a oe cls d pn hz hf => (pss_cons (ps_ret (pe_tup (pa_cons pe_str (pa_cons (pe_ifExp (PW.pt (pw_and (pt_val (pe_callB (call_isG2 (K := K) rfl hz hf) rfl T.b_isinstance boot_isinstance (pa_cons (pv 4) (pa_cons (pe_glob (v := .ref (He.ga K "RootError")) rfl T.c_RootError rfl) pa_nil)))) (pw_and1 (pt_val (pe_callB (call_isG2 (K := K) rfl hz hf) rfl T.b_isinstance boot_isinstance (pa_cons (pv 4) (pa_cons (pe_bltn (v := .ty "ValueError") rfl T.b_ValueError boot_ValueError rfl) pa_nil))))))) (pe_xf EF.xf.1 EF.xf.2 hz hf (pv 4)) pe_non) pa_nil)))) pss_nil))) (pss_cons (ps_ret (pe_tup (pa_cons pe_str (pa_cons (pe_tup (pa_cons (q_fld (K := K) rfl (pv 3) rfl) (pa_cons (pe_call (c_L_unpacked.F.mono (by decide)) hr rfl T.g_L_unpacked c_L_unpacked.kp c_L_unpacked.b .nil pass0 (pa_cons (q_fld (K := K) rfl (pv 3) rfl) pa_nil)) (pa_cons (pe_call (c_L_unpacked.F.mono (by decide)) hr rfl T.g_L_unpacked c_L_unpacked.kp c_L_unpacked.b .nil pass0 (pa_cons (q_fld (K := K) rfl (pv 3) rfl) pa_nil)) pa_nil)))) pa_nil)))) pss_nil)), ?_⟩
  refine read_of P w K h rfl fun rs k D hs hD hN => ?_
  obtain ⟨j, md, x, y, rfl, hx, hy, hj, hk, he⟩ := hs
  refine ws_try ?_
  refine ws_asg ?_
  refine we_makeY (e := fun C o => C = BS K ∧ ∃ r, wrongS md x y = Option.some r ∧ o = Option.some (("part" : Str), rWr K r)) (rzRW ?_ ?_ ?_) ?_
  · rintro C o ⟨rfl, _⟩
    exact EF.eb
  · rintro C H' a σ ⟨_, r, _, e⟩
    cases e
  · rintro C dx f v r H' a σ ⟨rfl, r', hr', e⟩ hS' hx' hrv hl
    cases e
    refine suite_in (P := P) (w := w) (K := K) hl (by decide) ?_
    refine ws_retS (rtk_in hD hS' rfl) ?_
    (refine we_tup ?_; refine wa_cons ?_; refine we_c ?_; refine wa_cons ?_; refine we_if ?_; refine wt_and ?_; refine wt_B ?_; (first | refine we_cb ?_ | refine we_xlen ?_); refine wa_cons ?_; refine we_var rfl ?_; refine wa_cons ?_)
    refine we_cr (rC (V.ref _)) (fun _ _ => rfl) ?_
    (refine wa_nil ?_)
    refine ct_isG2 (B := bd P w K H') EF.cl (.inr ⟨_, _, rfl, hx'⟩) (.own _) EF.rt ?_
    refine ⟨_, rfl, fun _ => ?_, fun z => nomatch z⟩
    (refine wt_B ?_; (first | refine we_cb ?_ | refine we_xlen ?_); refine wa_cons ?_; refine we_var rfl ?_; refine wa_cons ?_; refine we_c ?_; refine wa_nil ?_)
    refine ct_isG2 (B := bd P w K H') EF.cl (.inr ⟨_, _, rfl, hx'⟩) (.ty _) EF.ve ?_
    refine ⟨_, rfl, fun _ => ?_, fun z => nomatch z⟩
    refine we_xfR hx' rfl hrv ?_
    (refine we_var rfl ?_)
    refine ⟨rfl, ?_⟩
    (refine wa_nil ?_; refine ⟨Nat.le_of_ble_eq_true rfl, ?_⟩)
    exact he r' hr'
  · (refine wa_cons ?_; refine we_var rfl ?_; refine wa_cons ?_; refine we_call ?_; refine wa_cons ?_; refine we_var rfl ?_; refine wa_nil ?_)
    refine ⟨29, x, rfl, rfl, hx.mono hj, ?_⟩
    (refine wa_cons ?_; refine we_call ?_; refine wa_cons ?_; refine we_var rfl ?_; refine wa_nil ?_)
    refine ⟨29, y, rfl, rfl, hy.mono hj, ?_⟩
    (refine wa_nil ?_)
    refine ⟨_, wrongS md x y = none, ⟨j, md, x, y, rfl, hx, hy, rfl, id, fun r hr => ⟨rfl, r, hr, rfl⟩⟩, fun hok => ?_⟩
    obtain ⟨n, E', B', rfl, h0, h3, e1, e2, b1, b2⟩ := wrong_right hok
    have es : syM P w K (.int (n : Int)) x y = ([("many", rInt (n : Int)), ("equations", rPs K E'), ("barred", rPs K B')] : List (Str × Rel)) := by
      unfold syM
      rw [rDt_int, rows_rPk e1, rows_rPk b1]
    rw [es]
    ((first | exact ws_end (by assumption) (by assumption) | refine ws_thru ?_); refine ws_retS (by assumption) ?_; refine we_tup ?_; refine wa_cons ?_; refine we_c ?_; refine wa_cons ?_; refine we_tup ?_; refine wa_cons ?_; refine we_fld ?_; refine we_var rfl ?_)
    refine ⟨_, _, rInt (n : Int), rfl, hS.cl, hS.nm, rfl, ?_⟩
    (refine wa_cons ?_; refine we_call ?_; refine wa_cons ?_; refine we_fld ?_; refine we_var rfl ?_)
    refine ⟨_, _, rPs K E', rfl, hS.cl, hS.ne, rfl, ?_⟩
    (refine wa_nil ?_)
    refine ⟨E', rfl, by omega, rows_ok e1 hx, ?_⟩
    (refine wa_cons ?_; refine we_call ?_; refine wa_cons ?_; refine we_fld ?_; refine we_var rfl ?_)
    refine ⟨_, _, rPs K B', rfl, hS.cl, hS.nb, rfl, ?_⟩
    (refine wa_nil ?_)
    refine ⟨B', rfl, by omega, rows_ok b1 hy, ?_⟩
    (refine wa_nil ?_; refine ⟨Nat.le_of_ble_eq_true rfl, ?_⟩; refine wa_nil ?_; refine ⟨Nat.le_of_ble_eq_true rfl, ?_⟩)
    exact hk n E' B' hok rfl e1 b1
end Lw
set_option Elab.async false
set_option linter.all false
set_option maxRecDepth 100000
set_option maxHeartbeats 4000000
/-! Z9: things otherwise. -/
namespace Lw
open PySem PySem.Spec PyProof.Rows L2 BX EX
theorem leM_dt {P : Program} {w : World} {K : PySem.W.Frag} {r : Rel} {d : Dt} (h : LeD P w K r d) : Le r (rMd P w K (.dt d)) := by rw [rMd_dt]; exact h
theorem leM_mk {P : Program} {w : World} {K : PySem.W.Frag} {m : PT} : Le (rMk P w K m) (rMd P w K (.mk m)) := by rw [rMd_mk]; exact fun _ _ h => h
theorem tsb_nil : TsB [] := ⟨Nat.zero_le _, fun _ h => (nomatch h), List.nodup_nil, fun _ h => (nomatch h)⟩
theorem tsb_up {i : Nat} (hi : i < 4) : TsB (upP i 1) := by
  match i, hi with
  | 0, _ => exact ⟨by decide, fun e he => by rw [List.mem_singleton.mp he]; exact ⟨1, 0, 0, 0, rfl, by decide, by decide, by decide, by decide⟩, by simp [upP], fun e he => by rw [List.mem_singleton.mp he]; decide⟩
  | 1, _ => exact ⟨by decide, fun e he => by rw [List.mem_singleton.mp he]; exact ⟨0, 1, 0, 0, rfl, by decide, by decide, by decide, by decide⟩, by simp [upP], fun e he => by rw [List.mem_singleton.mp he]; decide⟩
  | 2, _ => exact ⟨by decide, fun e he => by rw [List.mem_singleton.mp he]; exact ⟨0, 0, 1, 0, rfl, by decide, by decide, by decide, by decide⟩, by simp [upP], fun e he => by rw [List.mem_singleton.mp he]; decide⟩
  | 3, _ => exact ⟨by decide, fun e he => by rw [List.mem_singleton.mp he]; exact ⟨0, 0, 0, 1, rfl, by decide, by decide, by decide, by decide⟩, by simp [upP], fun e he => by rw [List.mem_singleton.mp he]; decide⟩
/-- flat things are let -/
def okd : Nat → Dt → Bool
  | _, .non => true
  | _, .bl _ => true
  | _, .int _ => true
  | _, .str _ => true
  | _, .dic => true
  | 0, _ => false
  | n + 1, .tup l => decide (l.length ≤ 1000) && l.all (okd n)
  | n + 1, .lst l => decide (l.length ≤ 1000) && (decide (l.length ≠ 2) && l.all (okd n))
theorem okd_ok : ∀ {n : Nat} {d : Dt}, okd n d = true → OkM n (.dt d)
  | _, .non, _ => .leaf rfl rfl
  | _, .bl _, _ => .leaf rfl rfl
  | _, .int _, _ => .leaf rfl rfl
  | _, .str _, _ => .leaf rfl rfl
  | _, .dic, _ => .leaf rfl rfl
  | n + 1, .tup l, h => by
    unfold okd at h
    rw [Bool.and_eq_true, List.all_eq_true] at h
    exact .dtup (of_decide_eq_true h.1) fun d hd => okd_ok (h.2 d hd)
  | n + 1, .lst l, h => by
    unfold okd at h
    rw [Bool.and_eq_true, Bool.and_eq_true, List.all_eq_true] at h
    exact .dlst (of_decide_eq_true h.1) (of_decide_eq_true h.2.1) fun d hd => okd_ok (h.2.2 d hd)
def S_L_odd (P : Program) (w : World) (K : PySem.W.Frag) : Spc := fun rs k => rs = [rHand P w] ∧ ∀ x, OkM 23 x → k (rMd P w K x)
theorem ok_L_odd {P : Program} {w : World} {K : PySem.W.Frag} {mg : Str → Option Value} {base : Heap} {f : Addr} {fd fd_L_any fd_L_mark fd_L_var fd_L_deep : FuncData} (T : Txt K mg) (F : FunD K "_law_odd" "_law_odd" (defArgs s_L_odd) (defBody s_L_odd) (defScope s_L_odd) [] [] f fd) (c_L_any : Callee P w K mg base (He.ga K "_law_any") fd_L_any ["_law_hand_here", "_law_things"] 2 (spOf (S_L_any P w K))) (c_L_mark : Callee P w K mg base (He.ga K "_law_mark") fd_L_mark ["_law_parts"] 1 (spOf (S_L_mark P w K))) (c_L_var : Callee P w K mg base (He.ga K "_law_var") fd_L_var ["_law_k"] 1 (spOf (S_L_var P w K))) (c_L_deep : Callee P w K mg base (He.ga K "_law_deep") fd_L_deep ["_law_hand_here"] 2 (spOf (S_L_deep9 P w K)))  :
    FnOk P w K mg base CX0 3 f fd ["_law_hand_here"] (spOf (S_L_odd P w K)) := by
  refine F.ok sc_L_odd (len_of (by intro rs k h; first | (obtain ⟨e, _⟩ := h; subst e; exact rfl) | (obtain ⟨_, e, _⟩ := h; subst e; exact rfl) | (obtain ⟨_, _, e, _⟩ := h; subst e; exact rfl) | (obtain ⟨_, _, _, e, _⟩ := h; subst e; exact rfl) | (obtain ⟨_, _, _, _, e, _⟩ := h; subst e; exact rfl) | (obtain ⟨_, _, _, _, _, e, _⟩ := h; subst e; exact rfl) | (obtain ⟨_, _, _, _, _, _, e, _⟩ := h; subst e; exact rfl) | (obtain ⟨_, _, _, _, _, _, _, e, _⟩ := h; subst e; exact rfl) | (obtain ⟨_, _, _, _, _, _, _, _, e, _⟩ := h; subst e; exact rfl) | (obtain ⟨_, _, _, _, _, _, _, _, _, e, _⟩ := h; subst e; exact rfl) | (obtain ⟨_, _, _, _, _, _, _, _, _, _, e, _⟩ := h; subst e; exact rfl) | (obtain ⟨_, _, _, _, _, _, _, _, _, _, _, e, _⟩ := h; subst e; exact rfl) | (obtain ⟨_, _, _, _, _, _, _, _, _, _, _, _, e, _⟩ := h; subst e; exact rfl))) (fun cdv A outer s H vs Q E hr h => ?_)
  
  refine ⟨_, PSs.nox (pss_cons (ps_set (i := 1) sc_L_odd.nd rfl (by first | exact Or.inl rfl | exact Or.inr rfl) (pe_lst (pa_cons pe_non (pa_cons pe_int (pa_cons pe_bl (pa_cons pe_str (pa_cons (pe_tup pa_nil) (pa_cons (pe_frz (pe_lst pa_nil)) (pa_cons (pe_frz (q_new (P := P) (w := w) rfl rfl)) (pa_cons (pe_op op_pow pe_int pe_int) (pa_cons (pe_tup (pa_cons (pe_tup (pa_cons pe_int (pa_cons pe_int (pa_cons pe_int (pa_cons pe_int pa_nil))))) (pa_cons pe_int pa_nil))) (pa_cons (pe_tup (pa_cons (pe_tup (pa_cons (pe_tup (pa_cons pe_int (pa_cons pe_int (pa_cons pe_int (pa_cons pe_int pa_nil))))) (pa_cons pe_int pa_nil))) pa_nil)) (pa_cons (pe_call (c_L_deep.F.mono (by decide)) hr rfl T.g_L_deep c_L_deep.kp c_L_deep.b .nil pass0 (pa_cons (pv 0) pa_nil)) pa_nil))))))))))))) (pss_frz 1 (pss_cons (ps_ret (pe_call (c_L_any.F.mono (by decide)) hr rfl T.g_L_any c_L_any.kp c_L_any.b .nil pass0 (pa_cons (pv 0) (pa_cons (pe_frz (pe_op op_catF (pv 1) (pe_lst (pa_cons (pe_call (c_L_mark.F.mono (by decide)) hr rfl T.g_L_mark c_L_mark.kp c_L_mark.b .nil pass0 (pa_cons (pe_call (c_L_var.F.mono (by decide)) hr rfl T.g_L_var c_L_var.kp c_L_var.b .nil pass0 (pa_cons pe_int pa_nil)) pa_nil)) (pa_cons (pe_call (c_L_mark.F.mono (by decide)) hr rfl T.g_L_mark c_L_mark.kp c_L_mark.b .nil pass0 (pa_cons (pe_call (c_L_var.F.mono (by decide)) hr rfl T.g_L_var c_L_var.kp c_L_var.b .nil pass0 (pa_cons pe_int pa_nil)) pa_nil)) (pa_cons (pe_call (c_L_mark.F.mono (by decide)) hr rfl T.g_L_mark c_L_mark.kp c_L_mark.b .nil pass0 (pa_cons (pe_frz (q_new (P := P) (w := w) rfl rfl)) pa_nil)) pa_nil)))))) pa_nil)))) pss_nil))), ?_⟩
  refine read_of P w K h rfl fun rs k D hs hD hN => ?_
  obtain ⟨rfl, hk⟩ := hs
  (refine ws_asgL ?_; refine wl_lst ?_; refine wa_cons ?_; refine we_c ?_; refine wa_cons ?_; refine we_c ?_; refine wa_cons ?_; refine we_c ?_; refine wa_cons ?_; refine we_c ?_; refine wa_cons ?_; refine we_tup ?_; refine wa_nil ?_; refine ⟨Nat.le_of_ble_eq_true rfl, ?_⟩; refine wa_cons ?_; (refine we_frzL ?_; refine wl_lst ?_); refine wa_nil ?_; refine ⟨Nat.le_of_ble_eq_true rfl, ?_⟩; refine wa_cons ?_; (refine we_frzX ?_; refine wx_new ?_); refine wa_cons ?_; refine we_op ?_; refine we_c ?_; refine we_c ?_; refine ot_I ?_ ?_)
  · unfold CPow; decide
  (refine wa_cons ?_; refine we_tup ?_; refine wa_cons ?_; refine we_tup ?_; refine wa_cons ?_; refine we_c ?_; refine wa_cons ?_; refine we_c ?_; refine wa_cons ?_; refine we_c ?_; refine wa_cons ?_; refine we_c ?_; refine wa_nil ?_; refine ⟨Nat.le_of_ble_eq_true rfl, ?_⟩; refine wa_cons ?_; refine we_c ?_; refine wa_nil ?_; refine ⟨Nat.le_of_ble_eq_true rfl, ?_⟩; refine wa_cons ?_; refine we_tup ?_; refine wa_cons ?_; refine we_tup ?_; refine wa_cons ?_; refine we_tup ?_; refine wa_cons ?_; refine we_c ?_; refine wa_cons ?_; refine we_c ?_; refine wa_cons ?_; refine we_c ?_; refine wa_cons ?_; refine we_c ?_; refine wa_nil ?_; refine ⟨Nat.le_of_ble_eq_true rfl, ?_⟩; refine wa_cons ?_; refine we_c ?_; refine wa_nil ?_; refine ⟨Nat.le_of_ble_eq_true rfl, ?_⟩; refine wa_nil ?_; refine ⟨Nat.le_of_ble_eq_true rfl, ?_⟩; refine wa_cons ?_; refine we_call ?_; refine wa_cons ?_; refine we_var rfl ?_; refine wa_nil ?_)
  refine ⟨rfl, fun j dp hdp hj1 hj2 => ?_⟩
  (refine wa_nil ?_; refine ⟨Nat.le_of_ble_eq_true rfl, ?_⟩; (first | refine ws_frzX rfl ?_ | refine ws_frzL rfl ?_); refine ws_retS (by assumption) (we_up ?_); refine we_call ?_; refine wa_cons ?_; refine we_var rfl ?_; refine wa_cons ?_)
  refine we_frzL ?_
  refine wl_catF ?_
  (refine we_var rfl ?_; refine ⟨_, rfl, ?_⟩; refine wl_lst ?_; refine wa_cons ?_; refine we_call ?_; refine wa_cons ?_; refine we_call ?_; refine wa_cons ?_; refine we_c ?_; refine wa_nil ?_)
  refine ⟨3, rfl, ?_⟩
  (refine wa_nil ?_)
  refine ⟨_, rfl, ?_⟩
  (refine wa_cons ?_; refine we_call ?_; refine wa_cons ?_; refine we_call ?_; refine wa_cons ?_; refine we_c ?_; refine wa_nil ?_)
  refine ⟨2, rfl, ?_⟩
  (refine wa_nil ?_)
  refine ⟨_, rfl, ?_⟩
  (refine wa_cons ?_; refine we_call ?_; refine wa_cons ?_; (refine we_frzX ?_; refine wx_new ?_); refine wa_nil ?_)
  refine ⟨_, rfl, ?_⟩
  (refine wa_nil ?_; refine ⟨Nat.le_of_ble_eq_true rfl, ?_⟩; refine ⟨Nat.le_of_ble_eq_true rfl, ?_⟩; refine wa_nil ?_)
  refine ⟨_, rfl, Nat.zero_lt_succ _, Nat.le_of_ble_eq_true rfl, fun r hr => ?_⟩
  have up : ∀ {r : Rel} (d : Dt), LeD P w K r d → okd 23 d = true → ∃ s, Le r s ∧ k s := fun d h1 h2 => ⟨_, leM_dt h1, hk _ (okd_ok h2)⟩
  simp only [List.cons_append, List.nil_append, List.mem_cons, List.not_mem_nil, or_false] at hr
  rcases hr with rfl | rfl | rfl | rfl | rfl | rfl | rfl | rfl | rfl | rfl | rfl | rfl | rfl | rfl
  · exact up .non le_non rfl
  · exact up _ le_int rfl
  · exact up _ le_bl rfl
  · exact up _ le_str rfl
  · exact up (.tup []) (by (repeat (first | exact le_dt | exact le_int | exact le_intC | exact le_bl | exact le_non | exact le_str | exact le_dct | exact le_dic | refine le_tup ?_ | refine le_lst ?_ | exact LeDs.nil | refine LeDs.cons ?_ ?_))) rfl
  · exact up (.lst []) (by (repeat (first | exact le_dt | exact le_int | exact le_intC | exact le_bl | exact le_non | exact le_str | exact le_dct | exact le_dic | refine le_tup ?_ | refine le_lst ?_ | exact LeDs.nil | refine LeDs.cons ?_ ?_))) rfl
  · exact up .dic le_dct rfl
  · exact up _ le_int rfl
  · exact up (.tup [.tup [.int 0, .int 0, .int 0, .int 0], .int 1]) (by (repeat (first | exact le_dt | exact le_int | exact le_intC | exact le_bl | exact le_non | exact le_str | exact le_dct | exact le_dic | refine le_tup ?_ | refine le_lst ?_ | exact LeDs.nil | refine LeDs.cons ?_ ?_))) rfl
  · exact up (.tup [.tup [.tup [.int 0, .int 0, .int 0, .int 0], .int 1]]) (by (repeat (first | exact le_dt | exact le_int | exact le_intC | exact le_bl | exact le_non | exact le_str | exact le_dct | exact le_dic | refine le_tup ?_ | refine le_lst ?_ | exact LeDs.nil | refine LeDs.cons ?_ ?_))) rfl
  · exact ⟨_, leM_dt le_dt, hk _ (hdp.ok.mono (by omega))⟩
  · exact ⟨_, leM_mk, hk _ (.mk (tsb_up (by decide)))⟩
  · exact ⟨_, leM_mk, hk _ (.mk (tsb_up (by decide)))⟩
  · exact ⟨_, leM_mk (m := []), hk _ (.mk tsb_nil)⟩
theorem mk_map {P : Program} {w : World} {K : PySem.W.Frag} (ms : List PT) : ms.map (rMk P w K) = (ms.map Md.mk).map (rMd P w K) := by
  rw [List.map_map, show (rMd P w K ∘ Md.mk) = rMk P w K from funext fun m => rMd_mk P w K m]
theorem le_eq {r s : Rel} (e : r = s) : Le r s := by rw [e]; exact fun _ _ h => h
theorem cutR_sub {α : Type} {xs : List α} {lo hi : Option Int} {x : α} (h : x ∈ cutR xs lo hi) : x ∈ xs := List.mem_of_mem_drop (List.mem_of_mem_take h)
theorem cutR_len {α : Type} (xs : List α) (lo hi : Option Int) : (cutR xs lo hi).length ≤ xs.length := by
  unfold cutR
  rw [List.length_take, List.length_drop]
  omega
theorem ok_mks {n : Nat} {ms : List PT} (hm : ∀ m ∈ ms, TsB m) : ∀ x ∈ ms.map Md.mk, OkM n x := fun x hx => by
  obtain ⟨m, h, rfl⟩ := List.mem_map.mp hx
  exact .mk (hm m h)
/-- bent rows -/
def S_L_bent_rows (P : Program) (w : World) (K : PySem.W.Frag) : Spc := fun rs k => ∃ ms : List PT, rs = [rHand P w, rTup K (ms.map (rMk P w K))] ∧ ms.length ≤ 6 ∧ (∀ m ∈ ms, TsB m) ∧ ∀ x, OkM 25 x → k (rMd P w K x)
theorem ok_L_bent_rows {P : Program} {w : World} {K : PySem.W.Frag} {mg : Str → Option Value} {base : Heap} {f : Addr} {fd fd_L_any fd_L_draw fd_L_deep fd_L_mark fd_L_odd : FuncData} (T : Txt K mg) (F : FunD K "_law_bent_rows" "_law_bent_rows" (defArgs s_L_bent_rows) (defBody s_L_bent_rows) (defScope s_L_bent_rows) [] [] f fd) (c_L_any : Callee P w K mg base (He.ga K "_law_any") fd_L_any ["_law_hand_here", "_law_things"] 2 (spOf (S_L_any P w K))) (c_L_draw : Callee P w K mg base (He.ga K "_law_draw") fd_L_draw ["_law_hand_here", "_law_many"] 1 (spOf (S_L_draw P w K))) (c_L_deep : Callee P w K mg base (He.ga K "_law_deep") fd_L_deep ["_law_hand_here"] 2 (spOf (S_L_deep9 P w K))) (c_L_mark : Callee P w K mg base (He.ga K "_law_mark") fd_L_mark ["_law_parts"] 1 (spOf (S_L_mark P w K))) (c_L_odd : Callee P w K mg base (He.ga K "_law_odd") fd_L_odd ["_law_hand_here"] 3 (spOf (S_L_odd P w K)))  :
    FnOk P w K mg base CX0 4 f fd ["_law_hand_here", "_law_rows"] (spOf (S_L_bent_rows P w K)) := by
  refine F.ok sc_L_bent_rows (len_of (by intro rs k h; first | (obtain ⟨e, _⟩ := h; subst e; exact rfl) | (obtain ⟨_, e, _⟩ := h; subst e; exact rfl) | (obtain ⟨_, _, e, _⟩ := h; subst e; exact rfl) | (obtain ⟨_, _, _, e, _⟩ := h; subst e; exact rfl) | (obtain ⟨_, _, _, _, e, _⟩ := h; subst e; exact rfl) | (obtain ⟨_, _, _, _, _, e, _⟩ := h; subst e; exact rfl) | (obtain ⟨_, _, _, _, _, _, e, _⟩ := h; subst e; exact rfl) | (obtain ⟨_, _, _, _, _, _, _, e, _⟩ := h; subst e; exact rfl) | (obtain ⟨_, _, _, _, _, _, _, _, e, _⟩ := h; subst e; exact rfl) | (obtain ⟨_, _, _, _, _, _, _, _, _, e, _⟩ := h; subst e; exact rfl) | (obtain ⟨_, _, _, _, _, _, _, _, _, _, e, _⟩ := h; subst e; exact rfl) | (obtain ⟨_, _, _, _, _, _, _, _, _, _, _, e, _⟩ := h; subst e; exact rfl) | (obtain ⟨_, _, _, _, _, _, _, _, _, _, _, _, e, _⟩ := h; subst e; exact rfl))) (fun cdv A outer s H vs Q E hr h => ?_)
  
  refine ⟨_, PSs.nox (pss_cons (ps_par (i := 2) (j := 3) (by rfl) sc_L_bent_rows.nd rfl rfl (by decide) rfl rfl (pa_cons (pe_call (c_L_draw.F.mono (by decide)) hr rfl T.g_L_draw c_L_draw.kp c_L_draw.b .nil pass0 (pa_cons (pv 0) (pa_cons (pe_op op_add (pe_callB (k_len (K := K) rfl) rfl T.b_len boot_len (pa_cons (pv 1) pa_nil)) pe_int) pa_nil))) (pa_cons (pe_call (c_L_odd.F.mono (by decide)) hr rfl T.g_L_odd c_L_odd.kp c_L_odd.b .nil pass0 (pa_cons (pv 0) pa_nil)) pa_nil)) (by rfl)) (pss_cons (ps_set (i := 4) sc_L_bent_rows.nd rfl (by first | exact Or.inl rfl | exact Or.inr rfl) (pe_lst (pa_cons (pe_frz (pe_callTy (k_listOf (K := K) rfl) rfl T.b_list boot_list (pa_cons (pv 1) pa_nil))) (pa_cons pe_non (pa_cons (pe_frz (q_new (P := P) (w := w) rfl rfl)) (pa_cons pe_str (pa_cons pe_int (pa_cons (pe_op (k_repA (K := K) rfl) (pv 1) pe_int) (pa_cons (pe_tup (pa_cons (pv 1) pa_nil)) (pa_cons (pe_call (c_L_deep.F.mono (by decide)) hr rfl T.g_L_deep c_L_deep.kp c_L_deep.b .nil pass0 (pa_cons (pv 0) pa_nil)) (pa_cons (pe_call (c_L_mark.F.mono (by decide)) hr rfl T.g_L_mark c_L_mark.kp c_L_mark.b .nil pass0 (pa_cons (pe_frz (q_new (P := P) (w := w) rfl rfl)) pa_nil)) (pa_cons (pv 1) pa_nil)))))))))))) (pss_frz 4 (pss_cons (ps_if (pt_cmpR op_eq (pe_call (c_L_draw.F.mono (by decide)) hr rfl T.g_L_draw c_L_draw.kp c_L_draw.b .nil pass0 (pa_cons (pv 0) (pa_cons pe_int pa_nil))) pe_int (nomark _)) (pss_cons (ps_ret (pe_call (c_L_any.F.mono (by decide)) hr rfl T.g_L_any c_L_any.kp c_L_any.b .nil pass0 (pa_cons (pv 0) (pa_cons (pv 4) pa_nil)))) pss_nil) pss_nil) (pss_cons (ps_ret (pe_call (c_L_any.F.mono (by decide)) hr rfl T.g_L_any c_L_any.kp c_L_any.b .nil pass0 (pa_cons (pv 0) (pa_cons (pe_frz (pe_lst (pa_cons (pe_op (k_catT (K := K) rfl) (pe_op (k_catT (K := K) rfl) (pe_slice (k_slT (K := K) rfl) (pv 1) po_none (po_some (pv 2))) (pe_tup (pa_cons (pv 3) pa_nil))) (pe_slice (k_slT (K := K) rfl) (pv 1) (po_some (pv 2)) po_none)) (pa_cons (pe_op (k_catT (K := K) rfl) (pe_op (k_catT (K := K) rfl) (pe_slice (k_slT (K := K) rfl) (pv 1) po_none (po_some (pv 2))) (pe_tup (pa_cons (pv 3) pa_nil))) (pe_slice (k_slT (K := K) rfl) (pv 1) (po_some (pe_op op_add (pv 2) pe_int)) po_none)) pa_nil)))) pa_nil)))) pss_nil))))), ?_⟩
  refine read_of P w K h rfl fun rs k D hs hD hN => ?_
  obtain ⟨ms, rfl, hl, hm, hk⟩ := hs
  (refine ws_par ?_; refine wa_cons ?_; refine we_call ?_; refine wa_cons ?_; refine we_var rfl ?_; refine wa_cons ?_; refine we_op ?_; (first | refine we_cb ?_ | refine we_xlen ?_); refine wa_cons ?_; refine we_var rfl ?_; refine wa_nil ?_; (first | refine ct_lenT ?_ | refine ct_lenL ?_); refine we_c ?_; refine ot_I0 ?_; refine wa_nil ?_)
  refine ⟨_, rfl, by omega, by rw [List.length_map]; omega, fun d d0 d1 => ?_⟩
  (refine wa_cons ?_; refine we_call ?_; refine wa_cons ?_; refine we_var rfl ?_; refine wa_nil ?_)
  refine ⟨rfl, fun x1 hx1 => ?_⟩
  (refine wa_nil ?_)
  refine ⟨_, _, rfl, ?_⟩
  (refine ws_asgL ?_; refine wl_lst ?_; refine wa_cons ?_; (first | (refine we_frzX ?_; refine wx_xpairs ?_) | (refine we_frzL ?_; first | refine wl_xsorted ?_ | refine wl_xitems ?_ | refine wl_listT ?_)); refine we_var rfl ?_)
  refine ⟨_, .inl rfl, ?_⟩
  (refine wa_cons ?_; refine we_c ?_; refine wa_cons ?_; (refine we_frzX ?_; refine wx_new ?_); refine wa_cons ?_; refine we_c ?_; refine wa_cons ?_; refine we_c ?_; refine wa_cons ?_; refine we_op ?_; refine we_var rfl ?_; refine we_c ?_)
  refine ot_repA (n := 7) (by decide) (by rw [List.length_map]; omega) ?_
  (refine wa_cons ?_; refine we_tup ?_; refine wa_cons ?_; refine we_var rfl ?_; refine wa_nil ?_; refine ⟨Nat.le_of_ble_eq_true rfl, ?_⟩; refine wa_cons ?_; refine we_call ?_; refine wa_cons ?_; refine we_var rfl ?_; refine wa_nil ?_)
  refine ⟨rfl, fun j dp hdp hj1 hj2 => ?_⟩
  (refine wa_cons ?_; refine we_call ?_; refine wa_cons ?_; (refine we_frzX ?_; refine wx_new ?_); refine wa_nil ?_)
  refine ⟨_, rfl, ?_⟩
  (refine wa_cons ?_; refine we_var rfl ?_; refine wa_nil ?_; refine ⟨Nat.le_of_ble_eq_true rfl, ?_⟩; (first | refine ws_frzX rfl ?_ | refine ws_frzL rfl ?_); refine ws_if ?_; refine wt_test ?_; refine we_op ?_; refine we_call ?_; refine wa_cons ?_; refine we_var rfl ?_; refine wa_cons ?_; refine we_c ?_; refine wa_nil ?_)
  refine ⟨3, rfl, by decide, by decide, fun d2 d0' d1' => ?_⟩
  have ok1 := hx1.mono (show 23 ≤ 24 by decide)
  (refine we_c ?_; refine ot_eq rfl ?_; refine ⟨_, rfl, ?_⟩)
  refine ⟨fun h => ?_, fun h => ?_⟩
  · (refine ws_retS (by assumption) (we_up ?_); refine we_call ?_; refine wa_cons ?_; refine we_var rfl ?_; refine wa_cons ?_; refine we_var rfl ?_; refine wa_nil ?_)
    refine ⟨_, rfl, Nat.zero_lt_succ _, Nat.le_of_ble_eq_true rfl, fun r hr => ?_⟩
    have up : ∀ {r : Rel} (d : Dt), LeD P w K r d → okd 23 d = true → ∃ s, Le r s ∧ k s := fun d h1 h2 => ⟨_, leM_dt h1, hk _ ((okd_ok h2).mono (by decide))⟩
    simp only [List.cons_append, List.nil_append, List.mem_cons, List.not_mem_nil, or_false] at hr
    rcases hr with rfl | rfl | rfl | rfl | rfl | rfl | rfl | rfl | rfl | rfl
    · exact ⟨_, le_eq (rMd_lst P w K ms).symm, hk _ (.lst (by omega) hm)⟩
    · exact up .non le_non rfl
    · exact up .dic le_dct rfl
    · exact up _ le_str rfl
    · exact up _ le_int rfl
    · refine ⟨rMd P w K (.tup (List.replicate 7 (ms.map Md.mk)).flatten), le_eq ?_, hk _ (.tup ?_ fun x hx => ?_)⟩
      · rw [rMd_tup, List.map_flatten, List.map_replicate, mk_map]
      · rw [List.length_flatten, List.map_replicate, List.sum_replicate_nat, List.length_map]
        omega
      · obtain ⟨l, hl, hx⟩ := List.mem_flatten.mp hx
        rw [List.eq_of_mem_replicate hl] at hx
        exact ok_mks hm x hx
    · refine ⟨rMd P w K (.tup [.tup (ms.map Md.mk)]), le_eq ?_, hk _ (.tup (Nat.le_of_ble_eq_true rfl) fun x hx => ?_)⟩
      · rw [rMd_tup, List.map_cons, rMd_tup, mk_map]
        rfl
      · rw [List.mem_singleton.mp hx]
        exact .tup (by rw [List.length_map]; omega) (ok_mks hm)
    · exact ⟨_, leM_dt le_dt, hk _ (hdp.ok.mono (by omega))⟩
    · exact ⟨_, leM_mk (m := []), hk _ (.mk tsb_nil)⟩
    · refine ⟨rMd P w K (.tup (ms.map Md.mk)), le_eq ?_, hk _ (.tup (by rw [List.length_map]; omega) (ok_mks hm))⟩
      rw [rMd_tup, mk_map]
  · have hc : ∀ lo hi, (cutR (ms.map (rMk P w K)) lo hi).length ≤ 6 := fun lo hi => Nat.le_trans (cutR_len _ _ _) (by rw [List.length_map]; exact hl)
    have hs1 : ∀ lo hi, (cutR (ms.map (rMk P w K)) lo hi).length + [rMd P w K x1].length ≤ sizeLine := fun lo hi => by
      have := hc lo hi
      rw [sizeLine_eq]
      show _ + 1 ≤ _
      omega
    have hs2 : ∀ lo hi lo' hi', (cutR (ms.map (rMk P w K)) lo hi ++ [rMd P w K x1]).length + (cutR (ms.map (rMk P w K)) lo' hi').length ≤ sizeLine := fun lo hi lo' hi' => by
      have := hc lo hi
      have := hc lo' hi'
      rw [sizeLine_eq, List.length_append]
      show _ + 1 + _ ≤ _
      omega
    have fin : ∀ lo hi lo' hi', ∃ s, Le (rTup K (cutR (ms.map (rMk P w K)) lo hi ++ [rMd P w K x1] ++ cutR (ms.map (rMk P w K)) lo' hi')) s ∧ k s := fun lo hi lo' hi' => by
      refine ⟨rMd P w K (.tup (cutR (ms.map Md.mk) lo hi ++ [x1] ++ cutR (ms.map Md.mk) lo' hi')), le_eq ?_, hk _ (.tup ?_ fun x hx => ?_)⟩
      · rw [rMd_tup, List.map_append, List.map_append, ← cutR_map, ← cutR_map, ← mk_map]
        rfl
      · have h1 := cutR_len (ms.map Md.mk) lo hi
        have h2 := cutR_len (ms.map Md.mk) lo' hi'
        rw [List.length_map] at h1 h2
        rw [List.length_append, List.length_append]
        show _ + 1 + _ ≤ _
        omega
      · rcases List.mem_append.mp hx with hx | hx
        · rcases List.mem_append.mp hx with hx | hx
          · exact ok_mks hm x (cutR_sub hx)
          · rw [List.mem_singleton.mp hx]
            exact ok1
        · exact ok_mks hm x (cutR_sub hx)
    ((first | exact ws_end (by assumption) (by assumption) | refine ws_thru ?_); refine ws_retS (by assumption) (we_up ?_); refine we_call ?_; refine wa_cons ?_; refine we_var rfl ?_; refine wa_cons ?_; (refine we_frzL ?_; refine wl_lst ?_); refine wa_cons ?_; refine we_op ?_; refine we_op ?_; refine we_slT ?_; refine we_var rfl ?_; refine ⟨_, rfl, ?_⟩; refine wo_none ?_; refine wo_some ?_; refine we_var rfl ?_; refine ⟨_, rfl, ?_⟩; refine we_tup ?_; refine wa_cons ?_; refine we_var rfl ?_; refine wa_nil ?_; refine ⟨Nat.le_of_ble_eq_true rfl, ?_⟩; refine ot_catT ?_ ?_)
    · exact hs1 _ _
    (refine we_slT ?_; refine we_var rfl ?_; refine ⟨_, rfl, ?_⟩; refine wo_some ?_; refine we_var rfl ?_; refine ⟨_, rfl, ?_⟩; refine wo_none ?_; refine ot_catT ?_ ?_)
    · exact hs2 _ _ _ _
    (refine wa_cons ?_; refine we_op ?_; refine we_op ?_; refine we_slT ?_; refine we_var rfl ?_; refine ⟨_, rfl, ?_⟩; refine wo_none ?_; refine wo_some ?_; refine we_var rfl ?_; refine ⟨_, rfl, ?_⟩; refine we_tup ?_; refine wa_cons ?_; refine we_var rfl ?_; refine wa_nil ?_; refine ⟨Nat.le_of_ble_eq_true rfl, ?_⟩; refine ot_catT ?_ ?_)
    · exact hs1 _ _
    (refine we_slT ?_; refine we_var rfl ?_; refine ⟨_, rfl, ?_⟩; refine wo_some ?_; refine we_op ?_; refine we_var rfl ?_; refine we_c ?_; refine ot_I0 ?_; refine ⟨_, rfl, ?_⟩; refine wo_none ?_; refine ot_catT ?_ ?_)
    · exact hs2 _ _ _ _
    (refine wa_nil ?_; refine ⟨Nat.le_of_ble_eq_true rfl, ?_⟩; refine wa_nil ?_)
    refine ⟨_, rfl, Nat.zero_lt_succ _, Nat.le_of_ble_eq_true rfl, fun r hr => ?_⟩
    simp only [List.mem_cons, List.not_mem_nil, or_false] at hr
    rcases hr with rfl | rfl
    · exact fin _ _ _ _
    · exact fin _ _ _ _
end Lw
set_option Elab.async false
set_option linter.all false
set_option maxRecDepth 100000
set_option maxHeartbeats 4000000
/-! Z10: bent parts. -/
namespace Lw
open PySem PySem.Spec PyProof.Rows L2 BX EX
/-- three parts -/
structure Pa where
  md : Dt
  x : Md
  y : Md
  hx : OkM 25 x
  hy : OkM 25 y
abbrev rPa (P : Program) (w : World) (K : PySem.W.Frag) (p : Pa) : List Rel := [rDt P w K p.md, rMd P w K p.x, rMd P w K p.y]
def S_L_bent_parts (P : Program) (w : World) (K : PySem.W.Frag) : Spc := fun rs k => ∃ (n : Nat) (E B : List PT), rs = [rHand P w, rInt (n : Int), rTup K (E.map (rMk P w K)), rTup K (B.map (rMk P w K))] ∧ E.length ≤ 6 ∧ B.length ≤ 6 ∧ (∀ m ∈ E, TsB m) ∧ (∀ m ∈ B, TsB m) ∧ ∀ p : Pa, k (rLst (rPa P w K p))
theorem ws_ctx {B : Bd} {D : Ends} {Γ Γ' : BX.Ctx} {t : TS} (e : Γ = Γ') (h : WpS B D Γ' t) : WpS B D Γ t := e ▸ h
theorem ok_L_bent_parts {P : Program} {w : World} {K : PySem.W.Frag} {mg : Str → Option Value} {base : Heap} {f : Addr} {fd fd_L_any fd_L_deep fd_L_bent_rows fd_L_draw : FuncData} (T : Txt K mg) (F : FunD K "_law_bent_parts" "_law_bent_parts" (defArgs s_L_bent_parts) (defBody s_L_bent_parts) (defScope s_L_bent_parts) [] [] f fd) (c_L_any : Callee P w K mg base (He.ga K "_law_any") fd_L_any ["_law_hand_here", "_law_things"] 2 (spOf (S_L_any P w K))) (c_L_deep : Callee P w K mg base (He.ga K "_law_deep") fd_L_deep ["_law_hand_here"] 2 (spOf (S_L_deep9 P w K))) (c_L_bent_rows : Callee P w K mg base (He.ga K "_law_bent_rows") fd_L_bent_rows ["_law_hand_here", "_law_rows"] 4 (spOf (S_L_bent_rows P w K))) (c_L_draw : Callee P w K mg base (He.ga K "_law_draw") fd_L_draw ["_law_hand_here", "_law_many"] 1 (spOf (S_L_draw P w K)))  :
    FnOk P w K mg base CX0 5 f fd ["_law_hand_here", "_law_many", "_law_equations", "_law_barred"] (spOf (S_L_bent_parts P w K)) := by
  refine F.ok sc_L_bent_parts (len_of (by intro rs k h; first | (obtain ⟨e, _⟩ := h; subst e; exact rfl) | (obtain ⟨_, e, _⟩ := h; subst e; exact rfl) | (obtain ⟨_, _, e, _⟩ := h; subst e; exact rfl) | (obtain ⟨_, _, _, e, _⟩ := h; subst e; exact rfl) | (obtain ⟨_, _, _, _, e, _⟩ := h; subst e; exact rfl) | (obtain ⟨_, _, _, _, _, e, _⟩ := h; subst e; exact rfl) | (obtain ⟨_, _, _, _, _, _, e, _⟩ := h; subst e; exact rfl) | (obtain ⟨_, _, _, _, _, _, _, e, _⟩ := h; subst e; exact rfl) | (obtain ⟨_, _, _, _, _, _, _, _, e, _⟩ := h; subst e; exact rfl) | (obtain ⟨_, _, _, _, _, _, _, _, _, e, _⟩ := h; subst e; exact rfl) | (obtain ⟨_, _, _, _, _, _, _, _, _, _, e, _⟩ := h; subst e; exact rfl) | (obtain ⟨_, _, _, _, _, _, _, _, _, _, _, e, _⟩ := h; subst e; exact rfl) | (obtain ⟨_, _, _, _, _, _, _, _, _, _, _, _, e, _⟩ := h; subst e; exact rfl))) (fun cdv A outer s H vs Q E hr h => ?_)
  
  refine ⟨_, PSs.nox (pss_cons (ps_set (i := 4) sc_L_bent_parts.nd rfl (by first | exact Or.inl rfl | exact Or.inr rfl) (pe_op op_add pe_int (pe_call (c_L_draw.F.mono (by decide)) hr rfl T.g_L_draw c_L_draw.kp c_L_draw.b .nil pass0 (pa_cons (pv 0) (pa_cons pe_int pa_nil))))) (pss_cons (ps_set (i := 5) sc_L_bent_parts.nd rfl (by first | exact Or.inl rfl | exact Or.inr rfl) (pe_lst (pa_cons (pv 1) (pa_cons (pv 2) (pa_cons (pv 3) pa_nil))))) (pss_cut (ps_if (pt_cmpR op_eq (pe_op op_mod (pe_callTy k_int1 rfl T.b_int boot_int (pa_cons (pv 4) pa_nil)) pe_int) pe_int (nomark _)) (pss_cons (ps_asg (pe_call (c_L_bent_rows.F.mono (by decide)) hr rfl T.g_L_bent_rows c_L_bent_rows.kp c_L_bent_rows.b .nil pass0 (pa_cons (pv 0) (pa_cons (pv 2) pa_nil))) (pg_sub (pv 5) pe_int set_list)) pss_nil) pss_nil) (pss_cut (ps_if (pt_cmpR op_eq (pe_op op_mod (pe_callTy k_int1 rfl T.b_int boot_int (pa_cons (pe_op op_fdivN (pv 4) pe_int) pa_nil)) pe_int) pe_int (nomark _)) (pss_cons (ps_asg (pe_call (c_L_bent_rows.F.mono (by decide)) hr rfl T.g_L_bent_rows c_L_bent_rows.kp c_L_bent_rows.b .nil pass0 (pa_cons (pv 0) (pa_cons (pv 3) pa_nil))) (pg_sub (pv 5) pe_int set_list)) pss_nil) pss_nil) (pss_cut (ps_if (pt_cmpR op_eq (pe_op op_fdivN (pv 4) pe_int) pe_int (nomark _)) (pss_cons (ps_asg (pe_call (c_L_any.F.mono (by decide)) hr rfl T.g_L_any c_L_any.kp c_L_any.b .nil pass0 (pa_cons (pv 0) (pa_cons (pe_frz (pe_lst (pa_cons pe_int (pa_cons pe_int (pa_cons (pe_un un_neg pe_int) (pa_cons pe_bl (pa_cons pe_non (pa_cons pe_str (pa_cons (pe_tup (pa_cons pe_int pa_nil)) (pa_cons (pe_frz (pe_lst pa_nil)) (pa_cons (pe_op op_pow pe_int pe_int) (pa_cons pe_int (pa_cons pe_int (pa_cons pe_int (pa_cons (pe_call (c_L_deep.F.mono (by decide)) hr rfl T.g_L_deep c_L_deep.kp c_L_deep.b .nil pass0 (pa_cons (pv 0) pa_nil)) pa_nil))))))))))))))) pa_nil))) (pg_sub (pv 5) pe_int set_list)) pss_nil) pss_nil) (pss_frz 5 (pss_cons (ps_ret (pv 5)) pss_nil))))))), ?_⟩
  refine read_of P w K h rfl fun rs k D hs hD hN => ?_
  obtain ⟨n, E', B', rfl, hE, hB, hmE, hmB, hk⟩ := hs
  ((first | refine ws_asg ?_ | refine ws_asgG ?_); refine we_op ?_; refine we_c ?_; refine we_call ?_; refine wa_cons ?_; refine we_var rfl ?_; refine wa_cons ?_; refine we_c ?_; refine wa_nil ?_)
  refine ⟨7, rfl, by decide, by decide, fun d d0 d1 => ?_⟩
  (refine ot_I0 ?_; refine ws_asgL ?_; refine wl_lst ?_; refine wa_cons ?_; refine we_var rfl ?_; refine wa_cons ?_; refine we_var rfl ?_; refine wa_cons ?_; refine we_var rfl ?_; refine wa_nil ?_; refine ⟨Nat.le_of_ble_eq_true rfl, ?_⟩)
  have eE : rTup K (E'.map (rMk P w K)) = rMd P w K (.tup (E'.map Md.mk)) := by rw [rMd_tup, mk_map]
  have eB : rTup K (B'.map (rMk P w K)) = rMd P w K (.tup (B'.map Md.mk)) := by rw [rMd_tup, mk_map]
  have e0 : ([rInt (n : Int), rTup K (E'.map (rMk P w K)), rTup K (B'.map (rMk P w K))] : List Rel) = rPa P w K ⟨.int (n : Int), .tup (E'.map Md.mk), .tup (B'.map Md.mk), .tup (by rw [List.length_map]; omega) (ok_mks hmE), .tup (by rw [List.length_map]; omega) (ok_mks hmB)⟩ := by
    show _ = [rDt P w K (.int (n : Int)), _, _]
    rw [rDt_int, ← eE, ← eB]
  refine ws_ctx (Γ' := [.im (rHand P w), .im (rInt (n : Int)), .im (rTup K (E'.map (rMk P w K))), .im (rTup K (B'.map (rMk P w K))), .im (rInt (1 + d)), .ml (rPa P w K ⟨.int (n : Int), .tup (E'.map Md.mk), .tup (B'.map Md.mk), .tup (by rw [List.length_map]; omega) (ok_mks hmE), .tup (by rw [List.length_map]; omega) (ok_mks hmB)⟩)]) ?_ ?_
  · rw [← e0]
    rfl
  generalize (⟨.int (n : Int), .tup (E'.map Md.mk), .tup (B'.map Md.mk), .tup (by rw [List.length_map]; omega) (ok_mks hmE), .tup (by rw [List.length_map]; omega) (ok_mks hmB)⟩ : Pa) = p0
  refine ws_cutEx (fun p : Pa => [.im (rHand P w), .im (rInt (n : Int)), .im (rTup K (E'.map (rMk P w K))), .im (rTup K (B'.map (rMk P w K))), .im (rInt (1 + d)), .ml (rPa P w K p)]) ?_ fun p1 => ?_
  · refine ws_if ?_
    (refine wt_test ?_; refine we_op ?_; refine we_op ?_; (first | refine we_cb ?_ | refine we_xlen ?_); refine wa_cons ?_; refine we_var rfl ?_; refine wa_nil ?_; (first | refine ct_int ?_ | refine ct_intB ?_); refine we_c ?_; refine ot_I ?_ ?_)
    · show (0 : Int) < 2; decide
    (refine we_c ?_; refine ot_eq rfl ?_; refine ⟨_, rfl, ?_⟩)
    refine ⟨fun _ => ?_, fun _ => ?_⟩
    · refine ws_putL (j := 1) rfl (show 1 < 3 by decide) ?_
      (refine we_call ?_; refine wa_cons ?_; refine we_var rfl ?_; refine wa_cons ?_; refine we_var rfl ?_; refine wa_nil ?_)
      refine ⟨E', rfl, hE, hmE, fun x hx => ?_⟩
      exact fun σ H E => ⟨⟨p0.md, x, p0.y, hx, p0.hy⟩, E.wk (by (repeat' (first | exact Weak.nil | apply Weak.eq | apply Weak.no)))⟩
    · exact fun σ H E => ⟨p0, E.wk (by (repeat' (first | exact Weak.nil | apply Weak.eq | apply Weak.no)))⟩
  refine ws_cutEx (fun p : Pa => [.im (rHand P w), .im (rInt (n : Int)), .im (rTup K (E'.map (rMk P w K))), .im (rTup K (B'.map (rMk P w K))), .im (rInt (1 + d)), .ml (rPa P w K p)]) ?_ fun p2 => ?_
  · refine ws_if ?_
    (refine wt_test ?_; refine we_op ?_; refine we_op ?_; (first | refine we_cb ?_ | refine we_xlen ?_); refine wa_cons ?_; refine we_op ?_; refine we_var rfl ?_; refine we_c ?_; refine ot_I ?_ ?_)
    · exact ⟨by decide, by decide⟩
    (refine wa_nil ?_; (first | refine ct_int ?_ | refine ct_intB ?_); refine we_c ?_; refine ot_I ?_ ?_)
    · show (0 : Int) < 2; decide
    (refine we_c ?_; refine ot_eq rfl ?_; refine ⟨_, rfl, ?_⟩)
    refine ⟨fun _ => ?_, fun _ => ?_⟩
    · refine ws_putL (j := 2) rfl (show 2 < 3 by decide) ?_
      (refine we_call ?_; refine wa_cons ?_; refine we_var rfl ?_; refine wa_cons ?_; refine we_var rfl ?_; refine wa_nil ?_)
      refine ⟨B', rfl, hB, hmB, fun x hx => ?_⟩
      exact fun σ H E => ⟨⟨p1.md, p1.x, x, p1.hx, hx⟩, E.wk (by (repeat' (first | exact Weak.nil | apply Weak.eq | apply Weak.no)))⟩
    · exact fun σ H E => ⟨p1, E.wk (by (repeat' (first | exact Weak.nil | apply Weak.eq | apply Weak.no)))⟩
  refine ws_cutEx (fun p : Pa => [.im (rHand P w), .im (rInt (n : Int)), .im (rTup K (E'.map (rMk P w K))), .im (rTup K (B'.map (rMk P w K))), .im (rInt (1 + d)), .ml (rPa P w K p)]) ?_ fun p3 => ?_
  · refine ws_if ?_
    (refine wt_test ?_; refine we_op ?_; refine we_op ?_; refine we_var rfl ?_; refine we_c ?_; refine ot_I ?_ ?_)
    · exact ⟨by decide, by decide⟩
    (refine we_c ?_; refine ot_eq rfl ?_; refine ⟨_, rfl, ?_⟩)
    refine ⟨fun _ => ?_, fun _ => ?_⟩
    · refine ws_putL (j := 0) rfl (show 0 < 3 by decide) ?_
      refine we_up ?_
      (refine we_call ?_; refine wa_cons ?_; refine we_var rfl ?_; refine wa_cons ?_; (refine we_frzL ?_; refine wl_lst ?_); refine wa_cons ?_; refine we_c ?_; refine wa_cons ?_; refine we_c ?_; refine wa_cons ?_; refine we_un ?_; refine we_c ?_; refine ut_I ?_; refine wa_cons ?_; refine we_c ?_; refine wa_cons ?_; refine we_c ?_; refine wa_cons ?_; refine we_c ?_; refine wa_cons ?_; refine we_tup ?_; refine wa_cons ?_; refine we_c ?_; refine wa_nil ?_; refine ⟨Nat.le_of_ble_eq_true rfl, ?_⟩; refine wa_cons ?_; (refine we_frzL ?_; refine wl_lst ?_); refine wa_nil ?_; refine ⟨Nat.le_of_ble_eq_true rfl, ?_⟩; refine wa_cons ?_; refine we_op ?_; refine we_c ?_; refine we_c ?_; refine ot_I ?_ ?_)
      · unfold CPow; decide
      (refine wa_cons ?_; refine we_c ?_; refine wa_cons ?_; refine we_c ?_; refine wa_cons ?_; refine we_c ?_; refine wa_cons ?_; refine we_call ?_; refine wa_cons ?_; refine we_var rfl ?_; refine wa_nil ?_)
      refine ⟨rfl, fun j dp hdp hj1 hj2 => ?_⟩
      (refine wa_nil ?_; refine ⟨Nat.le_of_ble_eq_true rfl, ?_⟩; refine wa_nil ?_)
      refine ⟨_, rfl, Nat.zero_lt_succ _, Nat.le_of_ble_eq_true rfl, fun r hr => ?_⟩
      obtain ⟨e, he⟩ : ∃ e, LeD P w K r e := by
        simp only [List.mem_cons, List.not_mem_nil, or_false] at hr
        rcases hr with rfl | rfl | rfl | rfl | rfl | rfl | rfl | rfl | rfl | rfl | rfl | rfl | rfl
        · exact ⟨_, le_int⟩
        · exact ⟨_, le_int⟩
        · exact ⟨_, le_int⟩
        · exact ⟨_, le_bl⟩
        · exact ⟨_, le_non⟩
        · exact ⟨_, le_str⟩
        · exact ⟨.tup [.int 1], by (repeat (first | exact le_dt | exact le_int | exact le_intC | exact le_bl | exact le_non | exact le_str | exact le_dct | exact le_dic | refine le_tup ?_ | refine le_lst ?_ | exact LeDs.nil | refine LeDs.cons ?_ ?_))⟩
        · exact ⟨.lst [], by (repeat (first | exact le_dt | exact le_int | exact le_intC | exact le_bl | exact le_non | exact le_str | exact le_dct | exact le_dic | refine le_tup ?_ | refine le_lst ?_ | exact LeDs.nil | refine LeDs.cons ?_ ?_))⟩
        · exact ⟨_, le_int⟩
        · exact ⟨_, le_int⟩
        · exact ⟨_, le_int⟩
        · exact ⟨_, le_int⟩
        · exact ⟨_, le_dt⟩
      exact ⟨_, he, fun σ H E => ⟨⟨e, p2.x, p2.y, p2.hx, p2.hy⟩, E.wk (by (repeat' (first | exact Weak.nil | apply Weak.eq | apply Weak.no)))⟩⟩
    · exact fun σ H E => ⟨p2, E.wk (by (repeat' (first | exact Weak.nil | apply Weak.eq | apply Weak.no)))⟩
  refine ws_frzL rfl ?_
  (refine ws_retS (by assumption) ?_; refine we_var rfl ?_)
  exact hk p3
end Lw
set_option Elab.async false
set_option linter.all false
set_option maxRecDepth 100000
set_option maxHeartbeats 4000000
/-! Z11: things that are no points, no covers. -/
namespace Lw
open PySem PySem.Spec PyProof.Rows L2 BX EX
theorem noPt_len {n m : Nat} {d : Dt} (h : m ≠ n) : isPtN n (.tup (List.replicate m [d]).flatten) = false := by
  show (decide (_ = n) && _) = false
  rw [decide_eq_false (by simp; exact h)]
  rfl
theorem noPt_bad {n : Nat} {d : Dt} (h0 : 0 < n) (h : isFrD d = false) : isPtN n (.tup (List.replicate n [d]).flatten) = false := by
  show (decide (_ = n) && _) = false
  cases n with
  | zero => exact absurd h0 (Nat.lt_irrefl 0)
  | succ n =>
    rw [List.replicate_succ, List.flatten_cons, List.all_append, List.all_cons, h]
    simp
theorem noPt_deep {n j : Nat} {d : Dt} (h : DpN j d) (hj : 2 ≤ j) : isPtN n d = false := by
  obtain ⟨i, rfl⟩ : ∃ i, j = i + 2 := ⟨j - 2, by omega⟩
  rcases h with ⟨e, he, rfl | rfl⟩ | rfl
  · rfl
  · have hf : isFrD e = false := by
      rcases he with ⟨e', _, rfl | rfl⟩ | rfl <;> rfl
    show (decide (_ = n) && ([e].all isFrD)) = false
    rw [List.all_cons, hf]
    simp
  · rfl
section
variable {P : Program} {w : World} {K : PySem.W.Frag}
theorem noPt_dt {n : Nat} {r : Rel} {d : Dt} (h : LeD P w K r d) (e : isPtN n d = false) : NoPt P w K n r := .inr ⟨d, h, e⟩
theorem noPt_rep {n m : Nat} {r : Rel} {d : Dt} (h : LeD P w K r d) (e : isPtN n (.tup (List.replicate m [d]).flatten) = false) : NoPt P w K n (rTup K (List.replicate m [r]).flatten) := .inr ⟨_, le_tup ((LeDs.cons h .nil).rep m), e⟩
theorem cov_dt {r : Rel} {d : Dt} (h : LeD P w K r d) (e : PySem.W.kitOne K (.type (tyD d)) (.type "tuple") = Option.some false) : CovF P w K r (-1) := .inl ⟨⟨_, fun H v p => tyD_ok (B := bd P w K (fun _ => none)) d H v (h v H p), e⟩, rfl⟩
end
theorem al_repl {H : Hp} {r s : Rel} (h : Le r s) : ∀ {k : Nat} {vs : List V}, Al H (List.replicate k r) vs → Al H (List.replicate k s) vs
  | 0, _, .nil => .nil
  | _ + 1, _, .cons a t => .cons (h _ _ a) (al_repl h t)
theorem cov_step {P : Program} {w : World} {K : PySem.W.Frag} {r : Rel} {d : Dt} {m : Nat} (h : LeD P w K r d) (hm : m ≤ 10) (hd : StepB d) : CovF P w K (rTup K (List.replicate (m + 1) [r]).flatten) 0 := by
  refine .inr (.inr ⟨d, m, fun v H p => ?_, hm, hd, rfl⟩)
  rw [show (List.replicate (m + 1) [r]).flatten = List.replicate (m + 1) r by simp] at p
  obtain ⟨a, xs, e, hs, hal⟩ := p
  exact ⟨a, xs, e, hs, al_repl h hal⟩
def S_L_is_odd_told (P : Program) (w : World) (K : PySem.W.Frag) : Spc := fun rs k => ∃ (n : Nat) (E B : List PT), rs = [rHand P w, rSy K n E B, rInt (n : Int)] ∧ 0 < n ∧ n ≤ 3 ∧ k (rBl true)
theorem ok_L_is_odd_told {P : Program} {w : World} {K : PySem.W.Frag} {mg : Str → Option Value} {base : Heap} {f : Addr} {fd fd_L_flag fd_is_cover fd_cover_fault fd_L_any fd_L_draw fd_is_root fd_L_deep : FuncData} (T : Txt K mg) (F : FunD K "_law_is_odd_told" "_law_is_odd_told" (defArgs s_L_is_odd_told) (defBody s_L_is_odd_told) (defScope s_L_is_odd_told) [] [] f fd) (c_L_flag : Callee P w K mg base (He.ga K "_law_flag") fd_L_flag ["_law_flag_here", "_law_due"] 1 (spOf (S_L_flag P w K))) (c_is_cover : Callee P w K mg base (He.ga K "is_cover") fd_is_cover ["system", "thing"] 4 (spOf (S_is_cover P w K))) (c_cover_fault : Callee P w K mg base (He.ga K "cover_fault") fd_cover_fault ["system", "thing"] 3 (spOf (S_cover_fault P w K))) (c_L_any : Callee P w K mg base (He.ga K "_law_any") fd_L_any ["_law_hand_here", "_law_things"] 2 (spOf (S_L_any P w K))) (c_L_draw : Callee P w K mg base (He.ga K "_law_draw") fd_L_draw ["_law_hand_here", "_law_many"] 1 (spOf (S_L_draw P w K))) (c_is_root : Callee P w K mg base (He.ga K "is_root") fd_is_root ["system", "thing"] 4 (spOf (S_is_root P w K))) (c_L_deep : Callee P w K mg base (He.ga K "_law_deep") fd_L_deep ["_law_hand_here"] 2 (spOf (S_L_deep9 P w K))) (hS : SyC K) (hsb : PySem.W.kitOne K (.ref (CS K)) (.type "tuple") = Option.some false) :
    FnOk P w K mg base CX0 5 f fd ["_law_hand_here", "_law_system", "_law_many"] (spOf (S_L_is_odd_told P w K)) := by
  refine F.ok sc_L_is_odd_told (len_of (by intro rs k h; first | (obtain ⟨e, _⟩ := h; subst e; exact rfl) | (obtain ⟨_, e, _⟩ := h; subst e; exact rfl) | (obtain ⟨_, _, e, _⟩ := h; subst e; exact rfl) | (obtain ⟨_, _, _, e, _⟩ := h; subst e; exact rfl) | (obtain ⟨_, _, _, _, e, _⟩ := h; subst e; exact rfl) | (obtain ⟨_, _, _, _, _, e, _⟩ := h; subst e; exact rfl) | (obtain ⟨_, _, _, _, _, _, e, _⟩ := h; subst e; exact rfl) | (obtain ⟨_, _, _, _, _, _, _, e, _⟩ := h; subst e; exact rfl) | (obtain ⟨_, _, _, _, _, _, _, _, e, _⟩ := h; subst e; exact rfl) | (obtain ⟨_, _, _, _, _, _, _, _, _, e, _⟩ := h; subst e; exact rfl) | (obtain ⟨_, _, _, _, _, _, _, _, _, _, e, _⟩ := h; subst e; exact rfl) | (obtain ⟨_, _, _, _, _, _, _, _, _, _, _, e, _⟩ := h; subst e; exact rfl) | (obtain ⟨_, _, _, _, _, _, _, _, _, _, _, _, e, _⟩ := h; subst e; exact rfl))) (fun cdv A outer s H vs Q E hr h => ?_)
  
  refine ⟨_, PSs.nox (pss_cons (ps_set (i := 3) sc_L_is_odd_told.nd rfl (by first | exact Or.inl rfl | exact Or.inr rfl) (pe_lst (pa_cons pe_non (pa_cons pe_int (pa_cons pe_str (pa_cons (pe_frz (pe_op op_rep (pe_lst (pa_cons (pe_tup (pa_cons pe_int (pa_cons pe_int pa_nil))) pa_nil)) (pv 2))) (pa_cons (pe_op (k_repA (K := K) rfl) (pe_tup (pa_cons (pe_tup (pa_cons pe_int (pa_cons pe_int pa_nil))) pa_nil)) (pe_op op_add (pv 2) pe_int)) (pa_cons (pe_op (k_repA (K := K) rfl) (pe_tup (pa_cons (pe_tup (pa_cons pe_int (pa_cons pe_int pa_nil))) pa_nil)) (pe_op op_sub (pv 2) pe_int)) (pa_cons (pe_op (k_repA (K := K) rfl) (pe_tup (pa_cons (pe_tup (pa_cons pe_int (pa_cons pe_int pa_nil))) pa_nil)) (pv 2)) (pa_cons (pe_frz (q_new (P := P) (w := w) rfl rfl)) pa_nil)))))))))) (pss_cons (ps_expr (q_extend (K := K) rfl (pv 3) (pa_cons (pe_lst (pa_cons (pv 1) (pa_cons (pe_op (k_repA (K := K) rfl) (pe_tup (pa_cons (pe_tup (pa_cons pe_bl (pa_cons pe_int pa_nil))) pa_nil)) (pv 2)) (pa_cons (pe_op (k_repA (K := K) rfl) (pe_tup (pa_cons (pe_tup (pa_cons pe_int (pa_cons pe_bl pa_nil))) pa_nil)) (pv 2)) (pa_cons (pe_op (k_repA (K := K) rfl) (pe_tup (pa_cons (pe_tup (pa_cons pe_int (pa_cons (pe_un un_neg pe_int) pa_nil))) pa_nil)) (pv 2)) (pa_cons (pe_op (k_repA (K := K) rfl) (pe_tup (pa_cons (pe_tup (pa_cons pe_int (pa_cons pe_int pa_nil))) pa_nil)) (pv 2)) (pa_cons (pe_op (k_repA (K := K) rfl) (pe_tup (pa_cons pe_int pa_nil)) (pv 2)) pa_nil))))))) pa_nil))) (pss_frz 3 (pss_cons (ps_if (pt_not (pt_val (pe_call (c_L_flag.F.mono (by decide)) hr rfl T.g_L_flag c_L_flag.kp c_L_flag.b .nil pass0 (pa_cons (pe_call (c_is_root.F.mono (by decide)) hr rfl T.g_is_root c_is_root.kp c_is_root.b .nil pass0 (pa_cons (pv 1) (pa_cons (pe_call (c_L_any.F.mono (by decide)) hr rfl T.g_L_any c_L_any.kp c_L_any.b .nil pass0 (pa_cons (pv 0) (pa_cons (pe_frz (pe_op op_catF (pv 3) (pe_lst (pa_cons (pe_call (c_L_deep.F.mono (by decide)) hr rfl T.g_L_deep c_L_deep.kp c_L_deep.b .nil pass0 (pa_cons (pv 0) pa_nil)) pa_nil)))) pa_nil))) pa_nil))) (pa_cons pe_bl pa_nil))))) (pss_cons (ps_ret pe_bl) pss_nil) pss_nil) (pss_cons (ps_set (i := 4) sc_L_is_odd_told.nd rfl (by first | exact Or.inl rfl | exact Or.inr rfl) (pe_call (c_L_any.F.mono (by decide)) hr rfl T.g_L_any c_L_any.kp c_L_any.b .nil pass0 (pa_cons (pv 0) (pa_cons (pe_frz (pe_lst (pa_cons pe_non (pa_cons pe_int (pa_cons pe_str (pa_cons (pe_frz (pe_lst pa_nil)) (pa_cons (pe_frz (q_new (P := P) (w := w) rfl rfl)) (pa_cons pe_bl (pa_cons (pv 1) (pa_cons (pe_frz (pe_lst (pa_cons (pe_tup (pa_cons pe_str (pa_cons (pe_tup pa_nil) (pa_cons (pe_tup pa_nil) pa_nil)))) pa_nil))) pa_nil)))))))))) pa_nil)))) (pss_cons (ps_if (PW.pt (pw_or (pt_cmpR op_ne (pe_call (c_cover_fault.F.mono (by decide)) hr rfl T.g_cover_fault c_cover_fault.kp c_cover_fault.b .nil pass0 (pa_cons (pv 1) (pa_cons (pv 4) pa_nil))) (pe_un un_neg pe_int) (nomark _)) (pw_or1 (pt_not (pt_val (pe_call (c_L_flag.F.mono (by decide)) hr rfl T.g_L_flag c_L_flag.kp c_L_flag.b .nil pass0 (pa_cons (pe_call (c_is_cover.F.mono (by decide)) hr rfl T.g_is_cover c_is_cover.kp c_is_cover.b .nil pass0 (pa_cons (pv 1) (pa_cons (pv 4) pa_nil))) (pa_cons pe_bl pa_nil)))))))) (pss_cons (ps_ret pe_bl) pss_nil) pss_nil) (pss_cons (ps_set (i := 5) sc_L_is_odd_told.nd rfl (by first | exact Or.inl rfl | exact Or.inr rfl) (pe_frz (pe_lst (pa_cons pe_non (pa_cons (pe_tup pa_nil) (pa_cons pe_str (pa_cons (pe_tup (pa_cons pe_str pa_nil)) (pa_cons (pe_frz (pe_lst (pa_cons pe_str (pa_cons pe_int pa_nil)))) (pa_cons (pe_tup (pa_cons pe_str (pa_cons pe_int pa_nil))) (pa_cons (pe_tup (pa_cons pe_str (pa_cons (pe_tup pa_nil) pa_nil))) (pa_cons (pe_tup (pa_cons pe_int pa_nil)) (pa_cons (pe_tup (pa_cons pe_str (pa_cons pe_int pa_nil))) (pa_cons (pe_tup (pa_cons (pe_tup pa_nil) pa_nil)) (pa_cons pe_int pa_nil)))))))))))))) (pss_cons (ps_set (i := 4) sc_L_is_odd_told.nd rfl (by first | exact Or.inl rfl | exact Or.inr rfl) (pe_op (k_repA (K := K) rfl) (pe_tup (pa_cons (pe_call (c_L_any.F.mono (by decide)) hr rfl T.g_L_any c_L_any.kp c_L_any.b .nil pass0 (pa_cons (pv 0) (pa_cons (pv 5) pa_nil))) pa_nil)) (pe_op op_add pe_int (pe_call (c_L_draw.F.mono (by decide)) hr rfl T.g_L_draw c_L_draw.kp c_L_draw.b .nil pass0 (pa_cons (pv 0) (pa_cons pe_int pa_nil)))))) (pss_cons (ps_if (PW.pt (pw_or (pt_cmpR op_ne (pe_call (c_cover_fault.F.mono (by decide)) hr rfl T.g_cover_fault c_cover_fault.kp c_cover_fault.b .nil pass0 (pa_cons (pv 1) (pa_cons (pv 4) pa_nil))) pe_int (nomark _)) (pw_or1 (pt_val (pe_callB (k_isi (P := P) (w := w) (K := K) rfl rfl rfl) rfl T.b_isinstance boot_isinstance (pa_cons (pe_call (c_cover_fault.F.mono (by decide)) hr rfl T.g_cover_fault c_cover_fault.kp c_cover_fault.b .nil pass0 (pa_cons (pv 1) (pa_cons (pv 4) pa_nil))) (pa_cons (pe_bltn (v := .ty "bool") rfl T.b_bool boot_bool rfl) pa_nil))))))) (pss_cons (ps_ret pe_bl) pss_nil) pss_nil) (pss_cons (ps_ret (pe_and (pe_cmpR op_eq (pe_call (c_cover_fault.F.mono (by decide)) hr rfl T.g_cover_fault c_cover_fault.kp c_cover_fault.b .nil pass0 (pa_cons (pv 1) (pa_cons (pe_tup pa_nil) pa_nil))) pe_int (nomark _)) (pe_one (pe_call (c_L_flag.F.mono (by decide)) hr rfl T.g_L_flag c_L_flag.kp c_L_flag.b .nil pass0 (pa_cons (pe_call (c_is_cover.F.mono (by decide)) hr rfl T.g_is_cover c_is_cover.kp c_is_cover.b .nil pass0 (pa_cons (pv 1) (pa_cons (pe_tup pa_nil) pa_nil))) (pa_cons pe_bl pa_nil)))))) pss_nil)))))))))), ?_⟩
  refine read_of P w K h rfl fun rs k D hs hD hN => ?_
  obtain ⟨n, E', B', rfl, h0, h3, hk⟩ := hs
  (refine ws_asgL ?_; refine wl_lst ?_; refine wa_cons ?_; refine we_c ?_; refine wa_cons ?_; refine we_c ?_; refine wa_cons ?_; refine we_c ?_; refine wa_cons ?_)
  refine we_frzL ?_
  refine wl_repV rfl ?_
  (refine wl_lst ?_; refine wa_cons ?_; refine we_tup ?_; refine wa_cons ?_; refine we_c ?_; refine wa_cons ?_; refine we_c ?_; refine wa_nil ?_; refine ⟨Nat.le_of_ble_eq_true rfl, ?_⟩; refine wa_nil ?_; refine ⟨Nat.le_of_ble_eq_true rfl, ?_⟩)
  refine ⟨⟨by omega, Nat.le_of_ble_eq_true rfl⟩, ?_⟩
  (refine wa_cons ?_; refine we_op ?_; refine we_tup ?_; refine wa_cons ?_; refine we_tup ?_; refine wa_cons ?_; refine we_c ?_; refine wa_cons ?_; refine we_c ?_; refine wa_nil ?_; refine ⟨Nat.le_of_ble_eq_true rfl, ?_⟩; refine wa_nil ?_; refine ⟨Nat.le_of_ble_eq_true rfl, ?_⟩; refine we_op ?_; refine we_var rfl ?_; refine we_c ?_; refine ot_I0 ?_)
  rw [show ((n : Int) + 1) = ((n + 1 : Nat) : Int) by omega]
  refine ot_repA (by omega) (Nat.le_of_ble_eq_true rfl) ?_
  (refine wa_cons ?_; refine we_op ?_; refine we_tup ?_; refine wa_cons ?_; refine we_tup ?_; refine wa_cons ?_; refine we_c ?_; refine wa_cons ?_; refine we_c ?_; refine wa_nil ?_; refine ⟨Nat.le_of_ble_eq_true rfl, ?_⟩; refine wa_nil ?_; refine ⟨Nat.le_of_ble_eq_true rfl, ?_⟩; refine we_op ?_; refine we_var rfl ?_; refine we_c ?_; refine ot_I0 ?_)
  rw [show ((n : Int) - 1) = ((n - 1 : Nat) : Int) by omega]
  refine ot_repA (by omega) (Nat.le_of_ble_eq_true rfl) ?_
  (refine wa_cons ?_; refine we_op ?_; refine we_tup ?_; refine wa_cons ?_; refine we_tup ?_; refine wa_cons ?_; refine we_c ?_; refine wa_cons ?_; refine we_c ?_; refine wa_nil ?_; refine ⟨Nat.le_of_ble_eq_true rfl, ?_⟩; refine wa_nil ?_; refine ⟨Nat.le_of_ble_eq_true rfl, ?_⟩; refine we_var rfl ?_)
  refine ot_repA (by omega) (Nat.le_of_ble_eq_true rfl) ?_
  (refine wa_cons ?_; (refine we_frzX ?_; refine wx_new ?_); refine wa_nil ?_; refine ⟨Nat.le_of_ble_eq_true rfl, ?_⟩; refine ws_ext rfl ?_; refine wl_lst ?_; refine wa_cons ?_; refine we_var rfl ?_; refine wa_cons ?_; refine we_op ?_; refine we_tup ?_; refine wa_cons ?_; refine we_tup ?_; refine wa_cons ?_; refine we_c ?_; refine wa_cons ?_; refine we_c ?_; refine wa_nil ?_; refine ⟨Nat.le_of_ble_eq_true rfl, ?_⟩; refine wa_nil ?_; refine ⟨Nat.le_of_ble_eq_true rfl, ?_⟩; refine we_var rfl ?_)
  refine ot_repA (by omega) (Nat.le_of_ble_eq_true rfl) ?_
  (refine wa_cons ?_; refine we_op ?_; refine we_tup ?_; refine wa_cons ?_; refine we_tup ?_; refine wa_cons ?_; refine we_c ?_; refine wa_cons ?_; refine we_c ?_; refine wa_nil ?_; refine ⟨Nat.le_of_ble_eq_true rfl, ?_⟩; refine wa_nil ?_; refine ⟨Nat.le_of_ble_eq_true rfl, ?_⟩; refine we_var rfl ?_)
  refine ot_repA (by omega) (Nat.le_of_ble_eq_true rfl) ?_
  (refine wa_cons ?_; refine we_op ?_; refine we_tup ?_; refine wa_cons ?_; refine we_tup ?_; refine wa_cons ?_; refine we_c ?_; refine wa_cons ?_; refine we_un ?_; refine we_c ?_; refine ut_I ?_; refine wa_nil ?_; refine ⟨Nat.le_of_ble_eq_true rfl, ?_⟩; refine wa_nil ?_; refine ⟨Nat.le_of_ble_eq_true rfl, ?_⟩; refine we_var rfl ?_)
  refine ot_repA (by omega) (Nat.le_of_ble_eq_true rfl) ?_
  (refine wa_cons ?_; refine we_op ?_; refine we_tup ?_; refine wa_cons ?_; refine we_tup ?_; refine wa_cons ?_; refine we_c ?_; refine wa_cons ?_; refine we_c ?_; refine wa_nil ?_; refine ⟨Nat.le_of_ble_eq_true rfl, ?_⟩; refine wa_nil ?_; refine ⟨Nat.le_of_ble_eq_true rfl, ?_⟩; refine we_var rfl ?_)
  refine ot_repA (by omega) (Nat.le_of_ble_eq_true rfl) ?_
  (refine wa_cons ?_; refine we_op ?_; refine we_tup ?_; refine wa_cons ?_; refine we_c ?_; refine wa_nil ?_; refine ⟨Nat.le_of_ble_eq_true rfl, ?_⟩; refine we_var rfl ?_)
  refine ot_repA (by omega) (Nat.le_of_ble_eq_true rfl) ?_
  (refine wa_nil ?_; refine ⟨Nat.le_of_ble_eq_true rfl, ?_⟩; refine ⟨Nat.le_of_ble_eq_true rfl, ?_⟩; (first | refine ws_frzX rfl ?_ | refine ws_frzL rfl ?_); refine ws_if ?_; refine wt_not ?_; refine wt_B ?_; refine we_call ?_; refine wa_cons ?_; refine we_call ?_; refine wa_cons ?_; refine we_var rfl ?_; refine wa_cons ?_; refine we_call ?_; refine wa_cons ?_; refine we_var rfl ?_; refine wa_cons ?_)
  refine we_frzL ?_
  refine wl_catF ?_
  (refine we_var rfl ?_; refine ⟨_, rfl, ?_⟩; refine wl_lst ?_; refine wa_cons ?_; refine we_call ?_; refine wa_cons ?_; refine we_var rfl ?_; refine wa_nil ?_)
  refine ⟨rfl, fun j dp hdp hj1 hj2 => ?_⟩
  (refine wa_nil ?_; refine ⟨Nat.le_of_ble_eq_true rfl, ?_⟩; refine ⟨Nat.le_of_ble_eq_true rfl, ?_⟩; refine wa_nil ?_)
  refine ⟨_, rfl, Nat.zero_lt_succ _, Nat.le_of_ble_eq_true rfl, fun r hr => ?_⟩
  have hr : NoPt P w K n r := by
    simp only [List.cons_append, List.nil_append, List.mem_cons, List.not_mem_nil, or_false] at hr
    rcases hr with rfl | rfl | rfl | rfl | rfl | rfl | rfl | rfl | rfl | rfl | rfl | rfl | rfl | rfl | rfl
    · exact noPt_dt le_non rfl
    · exact noPt_dt le_int rfl
    · exact noPt_dt le_str rfl
    · exact noPt_dt (le_lst ((LeDs.cons (d := .tup [.int 0, .int 1]) (by (repeat (first | exact le_dt | exact le_int | exact le_intC | exact le_bl | exact le_non | exact le_str | exact le_dct | exact le_dic | refine le_tup ?_ | refine le_lst ?_ | exact LeDs.nil | refine LeDs.cons ?_ ?_))) .nil).rep n)) rfl
    · exact noPt_rep (d := .tup [.int 0, .int 1]) (by (repeat (first | exact le_dt | exact le_int | exact le_intC | exact le_bl | exact le_non | exact le_str | exact le_dct | exact le_dic | refine le_tup ?_ | refine le_lst ?_ | exact LeDs.nil | refine LeDs.cons ?_ ?_))) (noPt_len (by omega))
    · exact noPt_rep (d := .tup [.int 0, .int 1]) (by (repeat (first | exact le_dt | exact le_int | exact le_intC | exact le_bl | exact le_non | exact le_str | exact le_dct | exact le_dic | refine le_tup ?_ | refine le_lst ?_ | exact LeDs.nil | refine LeDs.cons ?_ ?_))) (noPt_len (by omega))
    · exact noPt_rep (d := .tup [.int 0, .int 2]) (by (repeat (first | exact le_dt | exact le_int | exact le_intC | exact le_bl | exact le_non | exact le_str | exact le_dct | exact le_dic | refine le_tup ?_ | refine le_lst ?_ | exact LeDs.nil | refine LeDs.cons ?_ ?_))) (noPt_bad h0 (by decide +kernel))
    · exact noPt_dt le_dct rfl
    · exact .inl ⟨_, hS.ty, hsb⟩
    · exact noPt_rep (d := .tup [.bl true, .int 1]) (by (repeat (first | exact le_dt | exact le_int | exact le_intC | exact le_bl | exact le_non | exact le_str | exact le_dct | exact le_dic | refine le_tup ?_ | refine le_lst ?_ | exact LeDs.nil | refine LeDs.cons ?_ ?_))) (noPt_bad h0 (by decide +kernel))
    · exact noPt_rep (d := .tup [.int 1, .bl true]) (by (repeat (first | exact le_dt | exact le_int | exact le_intC | exact le_bl | exact le_non | exact le_str | exact le_dct | exact le_dic | refine le_tup ?_ | refine le_lst ?_ | exact LeDs.nil | refine LeDs.cons ?_ ?_))) (noPt_bad h0 (by decide +kernel))
    · exact noPt_rep (d := .tup [.int 1, .int (-1)]) (by (repeat (first | exact le_dt | exact le_int | exact le_intC | exact le_bl | exact le_non | exact le_str | exact le_dct | exact le_dic | refine le_tup ?_ | refine le_lst ?_ | exact LeDs.nil | refine LeDs.cons ?_ ?_))) (noPt_bad h0 (by decide +kernel))
    · exact noPt_rep (d := .tup [.int 1, .int 0]) (by (repeat (first | exact le_dt | exact le_int | exact le_intC | exact le_bl | exact le_non | exact le_str | exact le_dct | exact le_dic | refine le_tup ?_ | refine le_lst ?_ | exact LeDs.nil | refine LeDs.cons ?_ ?_))) (noPt_bad h0 (by decide +kernel))
    · exact noPt_rep (d := .int 0) (by (repeat (first | exact le_dt | exact le_int | exact le_intC | exact le_bl | exact le_non | exact le_str | exact le_dct | exact le_dic | refine le_tup ?_ | refine le_lst ?_ | exact LeDs.nil | refine LeDs.cons ?_ ?_))) (noPt_bad h0 (by decide +kernel))
    · exact noPt_dt le_dt (noPt_deep hdp (by omega))
  (refine wa_nil ?_)
  refine ⟨n, E', B', r, rfl, by omega, hr, ?_⟩
  (refine wa_cons ?_; refine we_c ?_; refine wa_nil ?_)
  refine ⟨false, false, rfl, ?_⟩
  refine ⟨_, rfl, fun z => (nomatch z), fun _ => ?_⟩
  refine ws_thru ?_
  ((first | refine ws_asg ?_ | refine ws_asgG ?_); refine we_call ?_; refine wa_cons ?_; refine we_var rfl ?_; refine wa_cons ?_; (refine we_frzL ?_; refine wl_lst ?_); refine wa_cons ?_; refine we_c ?_; refine wa_cons ?_; refine we_c ?_; refine wa_cons ?_; refine we_c ?_; refine wa_cons ?_; (refine we_frzL ?_; refine wl_lst ?_); refine wa_nil ?_; refine ⟨Nat.le_of_ble_eq_true rfl, ?_⟩; refine wa_cons ?_; (refine we_frzX ?_; refine wx_new ?_); refine wa_cons ?_; refine we_c ?_; refine wa_cons ?_; refine we_var rfl ?_; refine wa_cons ?_; (refine we_frzL ?_; refine wl_lst ?_); refine wa_cons ?_; refine we_tup ?_; refine wa_cons ?_; refine we_c ?_; refine wa_cons ?_; refine we_tup ?_; refine wa_nil ?_; refine ⟨Nat.le_of_ble_eq_true rfl, ?_⟩; refine wa_cons ?_; refine we_tup ?_; refine wa_nil ?_; refine ⟨Nat.le_of_ble_eq_true rfl, ?_⟩; refine wa_nil ?_; refine ⟨Nat.le_of_ble_eq_true rfl, ?_⟩; refine wa_nil ?_; refine ⟨Nat.le_of_ble_eq_true rfl, ?_⟩; refine wa_nil ?_; refine ⟨Nat.le_of_ble_eq_true rfl, ?_⟩; refine wa_nil ?_)
  refine ⟨_, rfl, Nat.zero_lt_succ _, Nat.le_of_ble_eq_true rfl, fun r hr => ?_⟩
  have hr : CovF P w K r (-1) := by
    simp only [List.mem_cons, List.not_mem_nil, or_false] at hr
    rcases hr with rfl | rfl | rfl | rfl | rfl | rfl | rfl | rfl
    · exact cov_dt le_non (kit_tuple _)
    · exact cov_dt le_int (kit_tuple _)
    · exact cov_dt le_str (kit_tuple _)
    · exact cov_dt (d := .lst []) (by (repeat (first | exact le_dt | exact le_int | exact le_intC | exact le_bl | exact le_non | exact le_str | exact le_dct | exact le_dic | refine le_tup ?_ | refine le_lst ?_ | exact LeDs.nil | refine LeDs.cons ?_ ?_))) (kit_tuple _)
    · exact cov_dt le_dct (kit_tuple _)
    · exact cov_dt le_bl (kit_tuple _)
    · exact .inl ⟨⟨_, hS.ty, hsb⟩, rfl⟩
    · exact cov_dt (d := .lst [.tup [.str "none", .tup [], .tup []]]) (by (repeat (first | exact le_dt | exact le_int | exact le_intC | exact le_bl | exact le_non | exact le_str | exact le_dct | exact le_dic | refine le_tup ?_ | refine le_lst ?_ | exact LeDs.nil | refine LeDs.cons ?_ ?_))) (kit_tuple _)
  (refine ws_if ?_; refine wt_or ?_; refine wt_test ?_; refine we_op ?_; refine we_call ?_; refine wa_cons ?_; refine we_var rfl ?_; refine wa_cons ?_; refine we_var rfl ?_; refine wa_nil ?_)
  refine ⟨n, E', B', r, -1, rfl, by omega, hr, ?_⟩
  (refine we_un ?_; refine we_c ?_; refine ut_I ?_; refine ot_ne rfl ?_; refine ⟨_, rfl, ?_⟩)
  refine ⟨fun z => absurd z (by decide), fun _ => ?_⟩
  (refine wt_not ?_; refine wt_B ?_; refine we_call ?_; refine wa_cons ?_; refine we_call ?_; refine wa_cons ?_; refine we_var rfl ?_; refine wa_cons ?_; refine we_var rfl ?_; refine wa_nil ?_)
  refine ⟨n, E', B', r, -1, rfl, by omega, hr, ?_⟩
  (refine wa_cons ?_; refine we_c ?_; refine wa_nil ?_)
  refine ⟨false, false, rfl, ?_⟩
  refine ⟨_, rfl, fun z => (nomatch z), fun _ => ?_⟩
  refine ws_thru ?_
  ((first | refine ws_asg ?_ | refine ws_asgG ?_); (refine we_frzL ?_; refine wl_lst ?_); refine wa_cons ?_; refine we_c ?_; refine wa_cons ?_; refine we_tup ?_; refine wa_nil ?_; refine ⟨Nat.le_of_ble_eq_true rfl, ?_⟩; refine wa_cons ?_; refine we_c ?_; refine wa_cons ?_; refine we_tup ?_; refine wa_cons ?_; refine we_c ?_; refine wa_nil ?_; refine ⟨Nat.le_of_ble_eq_true rfl, ?_⟩; refine wa_cons ?_; (refine we_frzL ?_; refine wl_lst ?_); refine wa_cons ?_; refine we_c ?_; refine wa_cons ?_; refine we_c ?_; refine wa_nil ?_; refine ⟨Nat.le_of_ble_eq_true rfl, ?_⟩; refine wa_cons ?_; refine we_tup ?_; refine wa_cons ?_; refine we_c ?_; refine wa_cons ?_; refine we_c ?_; refine wa_nil ?_; refine ⟨Nat.le_of_ble_eq_true rfl, ?_⟩; refine wa_cons ?_; refine we_tup ?_; refine wa_cons ?_; refine we_c ?_; refine wa_cons ?_; refine we_tup ?_; refine wa_nil ?_; refine ⟨Nat.le_of_ble_eq_true rfl, ?_⟩; refine wa_nil ?_; refine ⟨Nat.le_of_ble_eq_true rfl, ?_⟩; refine wa_cons ?_; refine we_tup ?_; refine wa_cons ?_; refine we_c ?_; refine wa_nil ?_; refine ⟨Nat.le_of_ble_eq_true rfl, ?_⟩; refine wa_cons ?_; refine we_tup ?_; refine wa_cons ?_; refine we_c ?_; refine wa_cons ?_; refine we_c ?_; refine wa_nil ?_; refine ⟨Nat.le_of_ble_eq_true rfl, ?_⟩; refine wa_cons ?_; refine we_tup ?_; refine wa_cons ?_; refine we_tup ?_; refine wa_nil ?_; refine ⟨Nat.le_of_ble_eq_true rfl, ?_⟩; refine wa_nil ?_; refine ⟨Nat.le_of_ble_eq_true rfl, ?_⟩; refine wa_cons ?_; refine we_c ?_; refine wa_nil ?_; refine ⟨Nat.le_of_ble_eq_true rfl, ?_⟩; (first | refine ws_asg ?_ | refine ws_asgG ?_); refine we_op ?_; refine we_tup ?_; refine wa_cons ?_; refine we_call ?_; refine wa_cons ?_; refine we_var rfl ?_; refine wa_cons ?_; refine we_var rfl ?_; refine wa_nil ?_)
  refine ⟨_, rfl, Nat.zero_lt_succ _, Nat.le_of_ble_eq_true rfl, fun r2 hr2 => ?_⟩
  obtain ⟨d, hd, hsd⟩ : ∃ d, LeD P w K r2 d ∧ StepB d := by
    simp only [List.mem_cons, List.not_mem_nil, or_false] at hr2
    rcases hr2 with rfl | rfl | rfl | rfl | rfl | rfl | rfl | rfl | rfl | rfl | rfl
    · exact ⟨.non, le_non, trivial⟩
    · exact ⟨.tup [], by (repeat (first | exact le_dt | exact le_int | exact le_intC | exact le_bl | exact le_non | exact le_str | exact le_dct | exact le_dic | refine le_tup ?_ | refine le_lst ?_ | exact LeDs.nil | refine LeDs.cons ?_ ?_)), trivial⟩
    · exact ⟨.str "part", le_str, trivial⟩
    · exact ⟨.tup [.str "part"], by (repeat (first | exact le_dt | exact le_int | exact le_intC | exact le_bl | exact le_non | exact le_str | exact le_dct | exact le_dic | refine le_tup ?_ | refine le_lst ?_ | exact LeDs.nil | refine LeDs.cons ?_ ?_)), .inr ⟨("part", 2), by simp, rfl, by decide⟩⟩
    · exact ⟨.lst [.str "part", .int 0], by (repeat (first | exact le_dt | exact le_int | exact le_intC | exact le_bl | exact le_non | exact le_str | exact le_dct | exact le_dic | refine le_tup ?_ | refine le_lst ?_ | exact LeDs.nil | refine LeDs.cons ?_ ?_)), trivial⟩
    · exact ⟨.tup [.str "parts", .int 0], by (repeat (first | exact le_dt | exact le_int | exact le_intC | exact le_bl | exact le_non | exact le_str | exact le_dct | exact le_dic | refine le_tup ?_ | refine le_lst ?_ | exact LeDs.nil | refine LeDs.cons ?_ ?_)), .inl rfl⟩
    · exact ⟨.tup [.str "none", .tup []], by (repeat (first | exact le_dt | exact le_int | exact le_intC | exact le_bl | exact le_non | exact le_str | exact le_dct | exact le_dic | refine le_tup ?_ | refine le_lst ?_ | exact LeDs.nil | refine LeDs.cons ?_ ?_)), .inr ⟨("none", 3), by simp, rfl, by decide⟩⟩
    · exact ⟨.tup [.int 0], by (repeat (first | exact le_dt | exact le_int | exact le_intC | exact le_bl | exact le_non | exact le_str | exact le_dct | exact le_dic | refine le_tup ?_ | refine le_lst ?_ | exact LeDs.nil | refine LeDs.cons ?_ ?_)), trivial⟩
    · exact ⟨.tup [.str "add", .int 0], by (repeat (first | exact le_dt | exact le_int | exact le_intC | exact le_bl | exact le_non | exact le_str | exact le_dct | exact le_dic | refine le_tup ?_ | refine le_lst ?_ | exact LeDs.nil | refine LeDs.cons ?_ ?_)), .inr ⟨("add", 4), by simp, rfl, by decide⟩⟩
    · exact ⟨.tup [.tup []], by (repeat (first | exact le_dt | exact le_int | exact le_intC | exact le_bl | exact le_non | exact le_str | exact le_dct | exact le_dic | refine le_tup ?_ | refine le_lst ?_ | exact LeDs.nil | refine LeDs.cons ?_ ?_)), trivial⟩
    · exact ⟨.int 7, le_int, trivial⟩
  (refine wa_nil ?_; refine ⟨Nat.le_of_ble_eq_true rfl, ?_⟩; refine we_op ?_; refine we_c ?_; refine we_call ?_; refine wa_cons ?_; refine we_var rfl ?_; refine wa_cons ?_; refine we_c ?_; refine wa_nil ?_)
  refine ⟨3, rfl, by decide, by decide, fun e e0 e1 => ?_⟩
  obtain ⟨m, rfl⟩ : ∃ m : Nat, e = m := ⟨e.toNat, (Int.toNat_of_nonneg e0).symm⟩
  (refine ot_I0 ?_)
  rw [show (1 + (m : Int)) = ((m + 1 : Nat) : Int) by omega]
  refine ot_repA (by omega) (Nat.le_of_ble_eq_true rfl) ?_
  have hc := cov_step (P := P) (w := w) (K := K) (m := m) hd (by omega) hsd
  (refine ws_if ?_; refine wt_or ?_; refine wt_test ?_; refine we_op ?_; refine we_call ?_; refine wa_cons ?_; refine we_var rfl ?_; refine wa_cons ?_; refine we_var rfl ?_; refine wa_nil ?_)
  refine ⟨n, E', B', _, 0, rfl, by omega, hc, ?_⟩
  (refine we_c ?_; refine ot_ne rfl ?_; refine ⟨_, rfl, ?_⟩)
  refine ⟨fun z => absurd z (by decide), fun _ => ?_⟩
  (refine wt_B ?_; (first | refine we_cb ?_ | refine we_xlen ?_); refine wa_cons ?_; refine we_call ?_; refine wa_cons ?_; refine we_var rfl ?_; refine wa_cons ?_; refine we_var rfl ?_; refine wa_nil ?_)
  refine ⟨n, E', B', _, 0, rfl, by omega, hc, ?_⟩
  (refine wa_cons ?_; refine we_c ?_; refine wa_nil ?_)
  refine ct_isi ty_int (.ty _) (kit_ty (a := "int") (r := false) (by decide +kernel)) ?_
  refine ⟨_, rfl, fun z => (nomatch z), fun _ => ?_⟩
  refine ws_thru ?_
  (refine ws_retS (by assumption) ?_; refine we_andV ?_; refine we_op ?_; refine we_call ?_; refine wa_cons ?_; refine we_var rfl ?_; refine wa_cons ?_; refine we_tup ?_; refine wa_nil ?_; refine ⟨Nat.le_of_ble_eq_true rfl, ?_⟩; refine wa_nil ?_)
  have hc0 : CovF P w K (rTup K []) 0 := .inr (.inl ⟨rfl, rfl⟩)
  refine ⟨n, E', B', _, 0, rfl, by omega, hc0, ?_⟩
  (refine we_c ?_; refine ot_eq rfl ?_; refine ⟨_, rfl, ?_⟩)
  refine ⟨fun _ => ?_, fun z => absurd z (by decide)⟩
  (refine we_call ?_; refine wa_cons ?_; refine we_call ?_; refine wa_cons ?_; refine we_var rfl ?_; refine wa_cons ?_; refine we_tup ?_; refine wa_nil ?_; refine ⟨Nat.le_of_ble_eq_true rfl, ?_⟩; refine wa_nil ?_)
  refine ⟨n, E', B', _, 0, rfl, by omega, hc0, ?_⟩
  (refine wa_cons ?_; refine we_c ?_; refine wa_nil ?_)
  exact ⟨false, false, rfl, hk⟩
end Lw
set_option Elab.async false
set_option linter.all false
set_option maxRecDepth 100000
set_option maxHeartbeats 4000000
/-! Z12: small polynomials in the first unknowns; tables compared. -/
namespace Lw
open PySem PySem.Spec PyProof.Rows L2 BX EX
def bu (un most : Nat) : B4 := ⟨if 0 < un then most else 0, if 1 < un then most else 0, if 2 < un then most else 0, if 3 < un then most else 0⟩
theorem in_bu {un n : Nat} {ys : List Int} (hp : Paired (fun (j : Nat) (y : Int) => 0 ≤ y ∧ y ≤ (n : Int) ∧ (un ≤ j → y = 0)) (List.range 4) ys) : In (bu un n) ys := by
  rw [show List.range 4 = [0, 1, 2, 3] from rfl] at hp
  cases hp with
  | cons h0 t =>
    cases t with
    | cons h1 t =>
      cases t with
      | cons h2 t =>
        cases t with
        | cons h3 t =>
          cases t
          rename_i a b c d
          refine ⟨a.toNat, b.toNat, c.toNat, d.toNat, by rw [Int.toNat_of_nonneg h0.1, Int.toNat_of_nonneg h1.1, Int.toNat_of_nonneg h2.1, Int.toNat_of_nonneg h3.1], ?_, ?_, ?_, ?_⟩
          · show a.toNat ≤ if 0 < un then n else 0
            have := h0.2.2
            split <;> omega
          · show b.toNat ≤ if 1 < un then n else 0
            have := h1.2.2
            split <;> omega
          · show c.toNat ≤ if 2 < un then n else 0
            have := h2.2.2
            split <;> omega
          · show d.toNat ≤ if 3 < un then n else 0
            have := h3.2.2
            split <;> omega
theorem bu_vol {un most : Nat} (h : most ≤ 2) : (bu un most).vol ≤ 81 := by
  have key : ∀ (c : Prop) [Decidable c], (if c then most else 0) + 1 ≤ 3 := fun c _ => by split <;> omega
  show ((if 0 < un then most else 0) + 1) * ((if 1 < un then most else 0) + 1) * ((if 2 < un then most else 0) + 1) * ((if 3 < un then most else 0) + 1) ≤ 3 * 3 * 3 * 3
  exact Nat.mul_le_mul (Nat.mul_le_mul (Nat.mul_le_mul (key _) (key _)) (key _)) (key _)
theorem bu_isU {un most : Nat} {m : PT} (h : Bx (bu un most) m) (hu : un ≤ 3) : isU un m = true := by
  unfold isU
  rw [List.all_eq_true]
  intro e he
  obtain ⟨x, y, z, u, e1, h1, h2, h3, h4⟩ := h e he
  have h1 : x ≤ if 0 < un then most else 0 := h1
  have h2 : y ≤ if 1 < un then most else 0 := h2
  have h3 : z ≤ if 2 < un then most else 0 := h3
  have h4 : u ≤ if 3 < un then most else 0 := h4
  rw [e1]
  refine decide_eq_true ?_
  match un, hu with
  | 0, _ =>
    have : x = 0 := by simpa using h1
    have : y = 0 := by simpa using h2
    have : z = 0 := by simpa using h3
    have : u = 0 := by simpa using h4
    subst_vars
    rfl
  | 1, _ =>
    have : y = 0 := by simpa using h2
    have : z = 0 := by simpa using h3
    have : u = 0 := by simpa using h4
    subst_vars
    rfl
  | 2, _ =>
    have : z = 0 := by simpa using h3
    have : u = 0 := by simpa using h4
    subst_vars
    rfl
  | 3, _ =>
    have : u = 0 := by simpa using h4
    subst_vars
    rfl
theorem bu_tsb {un n : Nat} {m : PT} (h : LB (bu un 2) n m) : TsB m := by
  refine ⟨Nat.le_trans h.len (Nat.le_trans (bu_vol (Nat.le_refl 2)) (by decide)), fun e he => ?_, h.nd, h.nz⟩
  obtain ⟨x, y, z, u, e1, h1, h2, h3, h4⟩ := h.bx e he
  have key : ∀ (c : Prop) [Decidable c], (if c then 2 else 0) ≤ 60 := fun c _ => by split <;> omega
  exact ⟨x, y, z, u, e1, Nat.le_trans h1 (key _), Nat.le_trans h2 (key _), Nat.le_trans h3 (key _), Nat.le_trans h4 (key _)⟩
def S_L_small9 (P : Program) (w : World) (K : PySem.W.Frag) : Spc := fun rs k => ∃ un most : Nat, rs = [rHand P w, rInt (un : Int), rInt (most : Int)] ∧ most ≤ 2 ∧ ∀ m, LB (bu un most) 15 m → k (rDI P w K m)
theorem ok_L_small {P : Program} {w : World} {K : PySem.W.Frag} {mg : Str → Option Value} {base : Heap} {f : Addr} {fd fd_L_draw fd_L_plus fd_L_any : FuncData} (T : Txt K mg) (F : FunD K "_law_small" "_law_small" (defArgs s_L_small) (defBody s_L_small) (defScope s_L_small) [] [] f fd) (c_L_draw : Callee P w K mg base (He.ga K "_law_draw") fd_L_draw ["_law_hand_here", "_law_many"] 1 (spOf (S_L_draw P w K))) (c_L_plus : Callee P w K mg base (He.ga K "_law_plus") fd_L_plus ["_law_one", "_law_other", "_law_by"] 1 (spOf (S_L_plus P w K))) (c_L_any : Callee P w K mg base (He.ga K "_law_any") fd_L_any ["_law_hand_here", "_law_things"] 2 (spOf (S_L_any P w K)))  :
    FnOk P w K mg base CX0 3 f fd ["_law_hand_here", "_law_many", "_law_most"] (spOf (S_L_small9 P w K)) := by
  refine F.ok sc_L_small (len_of (by intro rs k h; first | (obtain ⟨e, _⟩ := h; subst e; exact rfl) | (obtain ⟨_, e, _⟩ := h; subst e; exact rfl) | (obtain ⟨_, _, e, _⟩ := h; subst e; exact rfl) | (obtain ⟨_, _, _, e, _⟩ := h; subst e; exact rfl) | (obtain ⟨_, _, _, _, e, _⟩ := h; subst e; exact rfl) | (obtain ⟨_, _, _, _, _, e, _⟩ := h; subst e; exact rfl) | (obtain ⟨_, _, _, _, _, _, e, _⟩ := h; subst e; exact rfl) | (obtain ⟨_, _, _, _, _, _, _, e, _⟩ := h; subst e; exact rfl) | (obtain ⟨_, _, _, _, _, _, _, _, e, _⟩ := h; subst e; exact rfl) | (obtain ⟨_, _, _, _, _, _, _, _, _, e, _⟩ := h; subst e; exact rfl) | (obtain ⟨_, _, _, _, _, _, _, _, _, _, e, _⟩ := h; subst e; exact rfl) | (obtain ⟨_, _, _, _, _, _, _, _, _, _, _, e, _⟩ := h; subst e; exact rfl) | (obtain ⟨_, _, _, _, _, _, _, _, _, _, _, _, e, _⟩ := h; subst e; exact rfl))) (fun cdv A outer s H vs Q E hr h => ?_)
  
  refine ⟨_, PSs.nox (pss_cons (ps_set (i := 3) sc_L_small.nd rfl (by first | exact Or.inl rfl | exact Or.inr rfl) (pe_frz (q_new (P := P) (w := w) rfl rfl))) (pss_cons (ps_for PassesOwn.never rfl (pi_range1 rfl T.b_range (pa_cons (pe_op op_add pe_int (pe_call (c_L_draw.F.mono (by decide)) hr rfl T.g_L_draw c_L_draw.kp c_L_draw.b .nil pass0 (pa_cons (pv 0) (pa_cons pe_int pa_nil)))) pa_nil)) (pg_name (i := 4) sc_L_small.nd rfl (by first | exact Or.inl rfl | exact Or.inr rfl)) (pss_cons (ps_set (i := 5) sc_L_small.nd rfl (by first | exact Or.inl rfl | exact Or.inr rfl) (pe_callTy (k_tupleOf (K := K) rfl) rfl T.b_tuple boot_tuple (pa_cons (pe_frz (pe_lc (own := [("_law_k", 6)]) (g := gName 6) (tt := tYes) rfl sc_L_small.nd (pi_range1 rfl T.b_range (pa_cons pe_int pa_nil)) (blkOk_by (own := [("_law_k", 6)]) (N := ["_law_hand_here", "_law_many", "_law_most", "_law_found", "_law_turn", "_law_powers", "_law_k"]) (sc := defScope s_L_small) (by decide +kernel)) (fun _ _ _ _ _ => (pg_name (i := 6) sc_L_small.nd rfl (by first | exact Or.inl rfl | exact Or.inr rfl))) (fun _ _ _ _ _ => pts_nil) (fun _ _ _ _ _ => (pe_ifExp (pt_cmpR op_lt (pv 6) (pv 1) (nomark _)) (pe_call (c_L_draw.F.mono (by decide)) hr rfl T.g_L_draw c_L_draw.kp c_L_draw.b .nil pass0 (pa_cons (pv 0) (pa_cons (pe_op op_add (pv 2) pe_int) pa_nil))) pe_int)))) pa_nil))) (pss_cons (ps_set (i := 3) sc_L_small.nd rfl (by first | exact Or.inl rfl | exact Or.inr rfl) (pe_call (c_L_plus.F.mono (by decide)) hr rfl T.g_L_plus c_L_plus.kp c_L_plus.b .nil pass0 (pa_cons (pv 3) (pa_cons (pe_frz (q_disp (P := P) (w := w) (K := K) rfl rfl rfl hr.units (pps_cons (pv 5) pe_int pps_nil) (by rfl) (by rfl) (fun z => by cases z) (by decide))) (pa_cons (pe_call (c_L_any.F.mono (by decide)) hr rfl T.g_L_any c_L_any.kp c_L_any.b .nil pass0 (pa_cons (pv 0) (pa_cons (pe_frz (pe_lst (pa_cons pe_int (pa_cons (pe_un un_neg pe_int) (pa_cons pe_int (pa_cons (pe_un un_neg pe_int) (pa_cons pe_int pa_nil))))))) pa_nil))) pa_nil))))) pss_nil))) (pss_cons (ps_ret (pv 3)) pss_nil))), ?_⟩
  refine read_of P w K h rfl fun rs k D hs hD hN => ?_
  obtain ⟨un, most, rfl, hm, hk⟩ := hs
  ((first | refine ws_asg ?_ | refine ws_asgG ?_); (refine we_frzX ?_; refine wx_new ?_))
  refine ws_forQ (fun i m => LB (bu un most) (i * 5) m) ([] : PT) (fun m => [.im (rHand P w), .im (rInt (un : Int)), .im (rInt (most : Int)), .im (rDI P w K m), .no, .no, .no]) ?_
  (refine wi_rng1 ?_; refine wa_cons ?_; refine we_op ?_; refine we_c ?_; refine we_call ?_; refine wa_cons ?_; refine we_var rfl ?_; refine wa_cons ?_; refine we_c ?_; refine wa_nil ?_)
  refine ⟨3, rfl, by decide, by decide, fun d d0 d1 => ?_⟩
  (refine ot_I0 ?_; refine wa_nil ?_; refine ⟨_, rfl, ?_⟩)
  refine ⟨by omega, by omega, by (repeat' (first | exact Weak.nil | apply Weak.eq | apply Weak.no)), LB.nil _ _, fun i hi m hI G st => ?_, fun m hI => ?_⟩
  · refine ⟨_, _, wg_name, ?_⟩
    ((first | (refine ws_asgX ?_; refine wx_xpairs ?_) | refine ws_asg ?_); (first | refine we_cb ?_ | refine we_xlen ?_); refine wa_cons ?_; refine we_frzL ?_)
    refine wl_lcN (List.range 4) (g := fun j => rInt (j : Int)) (h := rInt) (fun (j : Nat) y => 0 ≤ y ∧ y ≤ (most : Int) ∧ (un ≤ j → y = 0)) ?_
    (refine wi_rng1 ?_; refine wa_cons ?_; refine we_c ?_; refine wa_nil ?_; refine ⟨_, rfl, ?_⟩)
    refine ⟨by decide, by decide, rfl, fun j hj => by rw [List.getElem_range], by decide, fun j hj G' st' => ?_, fun ys hp => ?_⟩
    · refine ⟨_, _, ?_, wg_name, ?_⟩
      · intro j hj; exact hj
      · have hj4 : j < 4 := List.mem_range.mp hj
        (refine we_if ?_; refine wt_test ?_; refine we_op ?_; refine we_var rfl ?_; refine we_var rfl ?_; refine ot_I0 ?_; refine ⟨_, rfl, ?_⟩)
        refine ⟨fun hlt => ?_, fun _ => ?_⟩
        · (refine we_call ?_; refine wa_cons ?_; refine we_var rfl ?_; refine wa_cons ?_; refine we_op ?_; refine we_var rfl ?_; refine we_c ?_; refine ot_I0 ?_; refine wa_nil ?_)
          refine ⟨_, rfl, by omega, by omega, fun d d0 d1 => ⟨d, rfl, d0, by omega, fun z => by have := of_decide_eq_true hlt; omega⟩⟩
        · (refine we_c ?_; refine ⟨_, rfl, ?_⟩)
          exact ⟨by decide, by omega, fun _ => rfl⟩
    · (refine wa_nil ?_; refine ct_tuple ?_; (first | refine ws_asg ?_ | refine ws_asgG ?_); refine we_call ?_; refine wa_cons ?_; refine we_var rfl ?_; refine wa_cons ?_; (refine we_frzX ?_; refine wx_xdisp ?_); (first | refine wp_cons ?_ | refine wp_nil ?_); refine we_var rfl ?_; refine ⟨_, rfl, ?_⟩; refine we_c ?_; (first | refine wp_cons ?_ | refine wp_nil ?_); refine ⟨Nat.le_of_ble_eq_true rfl, ?_⟩; refine wa_cons ?_; refine we_call ?_; refine wa_cons ?_; refine we_var rfl ?_; refine wa_cons ?_; (refine we_frzL ?_; refine wl_lst ?_); refine wa_cons ?_; refine we_c ?_; refine wa_cons ?_; refine we_un ?_; refine we_c ?_; refine ut_I ?_; refine wa_cons ?_; refine we_c ?_; refine wa_cons ?_; refine we_un ?_; refine we_c ?_; refine ut_I ?_; refine wa_cons ?_; refine we_c ?_; refine wa_nil ?_; refine ⟨Nat.le_of_ble_eq_true rfl, ?_⟩; refine wa_nil ?_)
      have hin : In (bu un most) ys := in_bu hp
      refine ⟨_, rfl, by decide, by decide, fun r hr => ?_⟩
      obtain ⟨s, rfl, hs⟩ : ∃ s : Int, r = rInt s ∧ s.natAbs ≤ 5 := by
        simp only [List.mem_cons, List.not_mem_nil, or_false] at hr
        rcases hr with rfl | rfl | rfl | rfl | rfl
        · exact ⟨1, rfl, by decide⟩
        · exact ⟨-1, rfl, by decide⟩
        · exact ⟨2, rfl, by decide⟩
        · exact ⟨-3, rfl, by decide⟩
        · exact ⟨5, rfl, by decide⟩
      have h1 := lb_one (c := 1) hin (by decide)
      have hS := hI.sumS h1 s
      (refine wa_nil ?_)
      refine ⟨m, [(ys, 1)], s, 1, rfl, hI.tb, h1.tb, ?_, by omega, fun t ht => by rw [List.mem_singleton.mp ht]; exact (by decide : (1 : Int).natAbs < 2 ^ 1), by decide, by decide, ?_⟩
      · have := hI.len
        have hv := bu_vol (un := un) hm
        show m.length + 1 ≤ _
        omega
      skip
      exact ws_nextI rfl _ (hS.mono (B4.le.refl _) (by rw [Nat.succ_mul, show (1 : Int).natAbs = 1 from rfl, Nat.mul_one]; omega)) (by (repeat' (first | exact Weak.nil | apply Weak.eq | apply Weak.no)))
  · (refine ws_retS (by assumption) ?_; refine we_var rfl ?_)
    exact hk _ (hI.mono (B4.le.refl _) (by omega))
theorem nodup_sub {α : Type} [DecidableEq α] : ∀ (l m : List α), l.Nodup → (∀ x, x ∈ l → x ∈ m) → l.length ≤ m.length
  | [], _, _, _ => Nat.zero_le _
  | x :: l, m, nd, h => by
    rw [List.nodup_cons] at nd
    have hx := h x (List.mem_cons_self ..)
    have := nodup_sub l (m.erase x) nd.2 fun y hy => by
      refine (List.mem_erase_of_ne fun z => nd.1 (by rw [← z]; exact hy)).mpr (h y (List.mem_cons_of_mem _ hy))
    rw [List.length_erase_of_mem hx] at this
    have hm : 0 < m.length := List.length_pos_of_mem hx
    show l.length + 1 ≤ m.length
    omega
theorem eqT_iff {b c : B4} {n m : Nat} {A B : PT} (hA : LB b n A) (hB : LB c m B) : eqTb A B = decide (canon A = canon B) := by
  rw [Bool.eq_iff_iff, decide_eq_true_iff]
  unfold eqTb
  rw [Bool.and_eq_true, decide_eq_true_iff, List.all_eq_true]
  constructor
  · rintro ⟨hl, h⟩
    have hin : ∀ e, e ∈ A → getM B e.1 = some e.2 := fun e he => of_decide_eq_true (h e he)
    have sub : ∀ k, k ∈ A.map (·.1) → k ∈ B.map (·.1) := fun k hk => by
      obtain ⟨e, he, rfl⟩ := List.mem_map.mp hk
      exact Classical.byContradiction fun z => by
        have := hin e he
        rw [getM_none.mpr z] at this
        cases this
    have sup : ∀ k, k ∈ B.map (·.1) → k ∈ A.map (·.1) := fun k hk => Classical.byContradiction fun z => by
      have nd : (k :: A.map (·.1)).Nodup := List.nodup_cons.mpr ⟨z, hA.nd⟩
      have := nodup_sub (k :: A.map (·.1)) (B.map (·.1)) nd fun x hx => by
        rcases List.mem_cons.mp hx with rfl | hx
        · exact hk
        · exact sub x hx
      rw [List.length_cons, List.length_map, List.length_map] at this
      omega
    refine can_ext (can_canon hA.nd) (can_canon hB.nd) fun k => ?_
    rw [cf_canon hA.nd, cf_canon hB.nd]
    by_cases hk : k ∈ A.map (·.1)
    · obtain ⟨e, he, rfl⟩ := List.mem_map.mp hk
      rw [cf_mem hA.nd (c := e.2) he]
      unfold cf
      rw [hin e he]
      rfl
    · rw [cf_none hk, cf_none fun z => hk (sup k z)]
  · intro h
    have hp : pol A = pol B := by rw [← hA.pb.2, ← hB.pb.2, h]
    obtain ⟨h1, h2⟩ := lb_eq hA hB hp
    exact ⟨h1, fun e he => decide_eq_true (h2 e he)⟩
theorem eqT_canon {b : B4} {n : Nat} {A : PT} (hA : LB b n A) : eqTb (canon A) A = true := by
  have hc : LB b n (canon A) := hA.pb.1.lb
  rw [eqT_iff hc hA]
  refine decide_eq_true ?_
  exact can_ext (can_canon hc.nd) (can_canon hA.nd) fun k => by rw [cf_canon hc.nd]

end Lw
set_option Elab.async false
set_option linter.all false
set_option maxRecDepth 100000
set_option maxHeartbeats 4000000
/-! Z13: what the law compares. -/
namespace Lw
open PySem PySem.Spec PySem.SeqAt PyProof.Rows L2 BX EX
theorem room_un {k : Nat} {A : Around} (r : Room k A) : A.units + 70 < cLine := by have := r.un; omega
theorem tsb_lb {m : PT} (h : TsB m) : LB ⟨60, 60, 60, 60⟩ (l1 m) m := ⟨h.nd, h.nz, h.b60, Nat.le_refl _⟩
theorem eqT_ts {A B : PT} (hA : TsB A) (hB : TsB B) : eqTb A B = decide (canon A = canon B) := eqT_iff (tsb_lb hA) (tsb_lb hB)
theorem eqT_self {A : PT} (hA : TsB A) : eqTb A A = true := by rw [eqT_ts hA hA]; exact decide_eq_true rfl
theorem canon_lb {m : PT} (h : TsB m) : eqTb (canon m) (canon m) = true := by
  have hc := (tsb_lb h).pb.1.lb
  rw [eqT_iff hc hc]
  exact decide_eq_true rfl
def eqMs (E E' : List PT) : Bool := decide (E.length = E'.length) && (E.zip E').all fun z => eqTb z.1 z.2
section
variable {X : Cx}
theorem epb_mk {S T : PT} (hS : eqTb S S = true) : EPB X 1 (rMk X.prog X.w X.K S) (rMk X.prog X.w X.K T) (eqTb S T) := by
  have h := epb_lst (X := X) (n := 0) (rs := [rStr "P", rDI X.prog X.w X.K S]) (ss := [rStr "P", rDI X.prog X.w X.K T]) rfl (.cons (epb_str "P") (.cons (epb_dct hS) .nil))
  rw [Bool.true_and, Bool.and_true] at h
  exact h
theorem epb_mks {E E' : List PT} (h : ∀ m ∈ E, eqTb m m = true) : EPB X 2 (rTup X.K (E.map (rMk X.prog X.w X.K))) (rTup X.K (E'.map (rMk X.prog X.w X.K))) (eqMs E E') :=
  epb_tup (prb_map (R := EPB X 1) (q := fun a b => eqTb a b) (p1 := fun m => eqTb m m = true) (p2 := fun _ => True) (fun a b ha _ => epb_mk ha) E E' h fun _ _ => trivial)
theorem eqMs_canon {E : List PT} (h : ∀ m ∈ E, TsB m) : eqMs (E.map canon) E = true := by
  unfold eqMs
  rw [List.length_map, decide_eq_true rfl, Bool.true_and, List.all_eq_true]
  intro z hz
  have key : ∀ L : List PT, (∀ m ∈ L, TsB m) → ∀ z ∈ (L.map canon).zip L, eqTb z.1 z.2 = true := by
    intro L
    induction L with
    | nil => intro _ z hz; cases hz
    | cons m L ih =>
      intro h z hz
      rw [List.map_cons, List.zip_cons_cons] at hz
      rcases List.mem_cons.mp hz with rfl | hz
      · exact eqT_canon (tsb_lb (h m List.mem_cons_self))
      · exact ih (fun m hm => h m (List.mem_cons_of_mem _ hm)) z hz
  exact key E h z hz
/-- != of two tuples that are alike -/
theorem epb_neT {n : Nat} {rs ss : List Rel} (h : Prb (EPB X n) rs ss true) {A : Around} (hu : A.units + 65 + n < cLine) {pins : List (Addr × Obj)} {s : Shared} {σ : L2.St} {H : Hp} {x y : V} {u v : Value} (I : Inv X pins σ H s) (rx : L2.RelV x u) (ry : L2.RelV y v) (p : (rTup X.K rs).p x H) (q : (rTup X.K ss).p y H)
    (E Q : Value → Shared → Prop) (hQ : Q (.bool false) s) : wpAny (model X.prog X.w) A (richCompare .NotEq u v) Q E s := by
  obtain ⟨a, xs, rfl, hs, hal⟩ := p
  obtain ⟨c, ys, rfl, hs', hal'⟩ := q
  cases rx
  cases ry
  obtain ⟨its, r, e, _⟩ := I.tuple hs
  obtain ⟨its2, r2, e2, _⟩ := I.tuple hs'
  obtain ⟨f, g1, g2, g3⟩ := h.at hal hal' r r2
  have hf : ∀ i, i < its.length → i < its2.length → f i = true := fun i h1 h2 => by
    cases e : f i with
    | true => rfl
    | false => exact Bool.noConfusion (g2 i h1 h2 e)
  have hl : its.length = its2.length := by
    have := g3 hf
    exact beq_iff_eq.mp this.symm
  refine Ne.rc_tupNG (by simpa using hl) (by omega) (fun _ s' => s' = s) e e2 (fun i h1 h2 s' es => ?_) (fun s' es => by rw [es]; exact hQ) rfl
  subst es
  have h1' : i < its.length := by simpa using h1
  have h2' : i < its2.length := by simpa using h2
  obtain ⟨rr, tt, x, y, hR, rx, ry, px, qy⟩ := g1 i h1' h2'
  rw [hf i h1' h2'] at hR
  exact hR.2 A.in1 (by show A.units + 1 + 64 + n < cLine; omega) pins s' σ H x y its.toArray[i] its2.toArray[i] I (by simpa using rx) (by simpa using ry) px qy _ _ ⟨rfl, rfl⟩
theorem epb_wr (r : Wr) : EPB X 1 (rWr X.K r) (rWr X.K r) true := by
  cases r with
  | s x => exact epb_str x
  | «at» x i =>
    have h := epb_tup (X := X) (n := 0) (.cons (epb_str x) (.cons (epb_int (i := (i : Int)) (j := (i : Int))) .nil))
    rw [decide_eq_true rfl] at h
    exact h
end
/-- what is made, and what is due, are alike -/
abbrev rTold' (P : Program) (w : World) (K : PySem.W.Frag) (n : Nat) (E B : List PT) : Rel := rTup K [rStr "told", rTup K [rInt (n : Int), rTup K (E.map (rMk P w K)), rTup K (B.map (rMk P w K))]]
def rNeMd (P : Program) (w : World) (K : PySem.W.Frag) : R2 := fun x y H Q => ((∃ n E B, (∀ m ∈ E, TsB m) ∧ (∀ m ∈ B, TsB m) ∧ (rTold P w K n E B).p x H ∧ (rTold' P w K n E B).p y H) ∨ ∃ r, (rRef K r).p x H ∧ (rRef K r).p y H) ∧ Q (.bl false) H
theorem k_neMd {X : Cx} {P : Program} {w : World} {K : PySem.W.Frag} (hP : X.prog = P) (hw : X.w = w) (hK : X.K = K) (hu : X.A.units + 70 < cLine) : OpR X (compareOp .NotEq) (rNeMd P w K) := by
  subst hP hw hK
  intro pins s σ H x y u v Q I rx ry ⟨h, q⟩
  show wpAny (model X.prog X.w) X.A (richCompare .NotEq u v) (EP X pins σ Q) X.xe s
  rcases h with ⟨n, E, B, hE, hB, h1, h2⟩ | ⟨r, h1, h2⟩
  · have m1 : EPB X 2 (rTup X.K (E.map fun m => rMk X.prog X.w X.K (canon m))) (rTup X.K (E.map (rMk X.prog X.w X.K))) true := by
      have h := epb_mks (X := X) (E := E.map canon) (E' := E) (fun m hm => by obtain ⟨a, ha, rfl⟩ := List.mem_map.mp hm; exact canon_lb (hE a ha))
      rw [eqMs_canon hE, List.map_map] at h
      exact h
    have m2 : EPB X 2 (rTup X.K (B.map fun m => rMk X.prog X.w X.K (canon m))) (rTup X.K (B.map (rMk X.prog X.w X.K))) true := by
      have h := epb_mks (X := X) (E := B.map canon) (E' := B) (fun m hm => by obtain ⟨a, ha, rfl⟩ := List.mem_map.mp hm; exact canon_lb (hB a ha))
      rw [eqMs_canon hB, List.map_map] at h
      exact h
    have h3 := epb_tup (X := X) (n := 2) (.cons (epb_int (i := (n : Int)) (j := (n : Int))) (.cons m1 (.cons m2 .nil)))
    rw [decide_eq_true rfl] at h3
    have h4 : Prb (EPB X 3) [rStr "told", _] [rStr "told", _] true := .cons (epb_str "told") (.cons h3 .nil)
    exact epb_neT h4 (by omega) I rx ry h1 h2 _ _ ⟨.bl false, H, I, rfl, q⟩
  · have h4 : Prb (EPB X 1) [rStr "refused", rWr X.K r] [rStr "refused", rWr X.K r] true := .cons (epb_str "refused") (.cons (epb_wr r) .nil)
    exact epb_neT h4 (by omega) I rx ry h1 h2 _ _ ⟨.bl false, H, I, rfl, q⟩
theorem ot_neMd1 {B : Bd} {k : Rel → Prop} {n : Nat} {E E' : List PT} (hE : ∀ m ∈ E, TsB m) (hB : ∀ m ∈ E', TsB m) (q : k (rBl false)) : OpT B (rNeMd B.P B.w B.K) (rTold B.P B.w B.K n E E') (rTold' B.P B.w B.K n E E') k := fun H x y _ h1 h2 Q hQ => ⟨.inl ⟨n, E, E', hE, hB, h1, h2⟩, hQ _ _ H q rfl (Same.refl H)⟩
theorem ot_neMd2 {B : Bd} {k : Rel → Prop} {r : Wr} (q : k (rBl false)) : OpT B (rNeMd B.P B.w B.K) (rRef B.K r) (rRef B.K r) k := fun H x y _ h1 h2 Q hQ => ⟨.inr ⟨r, h1, h2⟩, hQ _ _ H q rfl (Same.refl H)⟩
/-- == of parts -/
abbrev rPr (P : Program) (w : World) (K : PySem.W.Frag) (n : Nat) (E B : List PT) : List Rel := [rInt (n : Int), rTup K (E.map (rMk P w K)), rTup K (B.map (rMk P w K))]
def eqPr (m : Nat) (E' B' : List PT) (n : Nat) (E B : List PT) : Bool := decide ((m : Int) = (n : Int)) && (eqMs E' E && (eqMs B' B && true))
def rEqPa (P : Program) (w : World) (K : PySem.W.Frag) : R2 := fun x y H Q => ∃ m E' B' n E B, (∀ a ∈ E', TsB a) ∧ (∀ a ∈ B', TsB a) ∧ (rLst (rPr P w K m E' B')).p x H ∧ (rLst (rPr P w K n E B)).p y H ∧ Q (.bl (eqPr m E' B' n E B)) H
theorem k_eqPa {X : Cx} {P : Program} {w : World} {K : PySem.W.Frag} (hP : X.prog = P) (hw : X.w = w) (hK : X.K = K) (hu : X.A.units + 70 < cLine) : OpR X (compareOp .Eq) (rEqPa P w K) := by
  subst hP hw hK
  intro pins s σ H x y u v Q I rx ry ⟨m, E', B', n, E, B, hE, hB, h1, h2, q⟩
  have h : Prb (EPB X 2) (rPr X.prog X.w X.K m E' B') (rPr X.prog X.w X.K n E B) (eqPr m E' B' n E B) :=
    .cons epb_int (.cons (epb_mks fun a ha => eqT_self (hE a ha)) (.cons (epb_mks fun a ha => eqT_self (hB a ha)) .nil))
  exact epb_lstR (n := 2) (rs := rPr X.prog X.w X.K m E' B') (ss := rPr X.prog X.w X.K n E B) rfl h (by omega) I rx ry h1 h2 _ _ ⟨.bl _, H, I, rfl, q⟩
theorem ot_eqPa {B : Bd} {k : Rel → Prop} {m n : Nat} {E' B' E B2 : List PT} (hE : ∀ a ∈ E', TsB a) (hB : ∀ a ∈ B', TsB a) (q : k (rBl (eqPr m E' B' n E B2))) : OpT B (rEqPa B.P B.w B.K) (rLst (rPr B.P B.w B.K m E' B')) (rLst (rPr B.P B.w B.K n E B2)) k := fun H x y _ h1 h2 Q hQ => ⟨m, E', B', n, E, B2, hE, hB, h1, h2, hQ _ _ H q rfl (Same.refl H)⟩
/-- both tell alike -/
theorem eqMs_ps : ∀ (E E' : List PT), (∀ m ∈ E, TsB m) → (∀ m ∈ E', TsB m) → eqMs E' E = eqPs E E'
  | [], [], _, _ => rfl
  | [], _ :: _, _, _ => rfl
  | _ :: _, [], _, _ => rfl
  | a :: E, b :: E', h, h' => by
    have ih := eqMs_ps E E' (fun m hm => h m (List.mem_cons_of_mem _ hm)) fun m hm => h' m (List.mem_cons_of_mem _ hm)
    unfold eqMs eqPs at ih ⊢
    rw [List.zip_cons_cons, List.zip_cons_cons, List.all_cons, List.all_cons, eqT_ts (h' b List.mem_cons_self) (h a List.mem_cons_self)]
    have e1 : decide ((b :: E').length = (a :: E).length) = decide (E'.length = E.length) := by rw [decide_eq_decide, List.length_cons, List.length_cons]; omega
    have e2 : decide ((a :: E).length = (b :: E').length) = decide (E.length = E'.length) := by rw [decide_eq_decide, List.length_cons, List.length_cons]; omega
    have e3 : decide (canon b = canon a) = decide (canon a = canon b) := by rw [decide_eq_decide]; exact ⟨Eq.symm, Eq.symm⟩
    rw [e1, e2, e3]
    revert ih
    cases decide (canon a = canon b) <;> simp
theorem eqSy_pr {n m : Nat} {E B E' B' : List PT} (hE : ∀ a ∈ E, TsB a) (hB : ∀ a ∈ B, TsB a) (hE' : ∀ a ∈ E', TsB a) (hB' : ∀ a ∈ B', TsB a) : eqSy n E B m E' B' = eqPr m E' B' n E B := by
  unfold eqSy eqPr
  rw [eqMs_ps E E' hE hE', eqMs_ps B B' hB hB', Bool.and_true, show decide ((m : Int) = (n : Int)) = decide (n = m) by rw [decide_eq_decide]; omega]
theorem eqSy_self {n : Nat} {E B : List PT} : eqSy n E B n E B = true := by
  have key : ∀ L : List PT, eqPs L L = true := fun L => by
    unfold eqPs
    rw [decide_eq_true rfl, Bool.true_and, List.all_eq_true]
    intro z hz
    have : ∀ (L : List PT), ∀ z ∈ L.zip L, z.1 = z.2 := by
      intro L
      induction L with
      | nil => intro z hz; cases hz
      | cons a L ih =>
        intro z hz
        rw [List.zip_cons_cons] at hz
        rcases List.mem_cons.mp hz with rfl | hz
        · rfl
        · exact ih z hz
    rw [this L z hz]
    exact decide_eq_true rfl
  unfold eqSy
  rw [key, key, decide_eq_true rfl]
  rfl
end Lw
set_option Elab.async false
set_option linter.all false
set_option maxRecDepth 100000
set_option maxHeartbeats 4000000
/-! Z14: the law. -/
namespace Lw
open PySem PySem.Spec PyProof.Rows L2 BX EX
/-- a comprehension over so many things as turn out, its elements told by a property -/
theorem wl_lcQ {B : Bd} {Γ : BX.Ctx} {β : Type} {h : β → Rel} (Pr : β → Prop) {wi : TI} {g' : TG} {te : TE} {vs : List Nat} {kl : List Rel → Prop}
    (hw : WpI B Γ wi fun n rs => n ≤ sizeLine ∧
      (∀ i, i < n → ∀ G st, ∃ Γ2 js, (∀ j, j ∈ js → j ∈ vs) ∧ WpG (B.more G st) (wipeC Γ vs) g' (rs i) js Γ2 ∧ WpE (B.more G st) Γ2 te fun r => ∃ y, r = h y ∧ Pr y) ∧ ∀ ys : List β, ys.length = n → (∀ y ∈ ys, Pr y) → kl (ys.map h)) : WpL B Γ (tLc wi g' tYes te vs) kl := by
  refine wl_lc fun σ H E R hR => hw σ H E R fun J n rs G Y H' ⟨hz, hs, hk⟩ => hR J n rs G Y H' ?_
  refine ⟨fun i es => ∃ ys, es = ys.map h ∧ ys.length = i ∧ ∀ y ∈ ys, Pr y, ⟨[], rfl, rfl, fun _ h => (nomatch h)⟩, fun i hi es ⟨ys, hes, hl, hp⟩ G st => ?_, fun es ⟨ys, hes, hl, hp⟩ => ?_⟩
  · obtain ⟨Γ2, js, h1, h2, h3⟩ := hs i hi G st
    refine ⟨Γ2, js, h1, h2, wt_yes ⟨fun _ => we_mono h3 fun r ⟨y, er, hy⟩ => ⟨?_, ys ++ [y], ?_, ?_, ?_⟩, fun z => nomatch z⟩⟩
    · subst hes
      rw [List.length_map]
      omega
    · rw [hes, er, List.map_append]
      rfl
    · rw [List.length_append, hl]
      rfl
    · intro z hz
      rcases List.mem_append.mp hz with hz | hz
      · exact hp z hz
      · rw [List.mem_singleton.mp hz]
        exact hy
  · rw [hes]
    exact hk ys hl hp
theorem mk_inj {E E' : List PT} (h : Option.some (E.map Md.mk) = Option.some (E'.map Md.mk)) : E = E' := by
  injection h with h
  exact (List.map_inj_right (fun x y z => by injection z)).mp h
theorem right_of {n : Nat} {E B : List PT} (h0 : 0 < n) (h3 : n ≤ 3) (hE : E.length ≤ 6) (hB : B.length ≤ 6) (uE : ∀ m ∈ E, isU n m = true) (uB : ∀ m ∈ B, isU n m = true) : wrongS (.int (n : Int)) (.tup (E.map .mk)) (.tup (B.map .mk)) = none := by
  have key : ∀ (L : List PT) (one every : Str), L.length ≤ 6 → (∀ m ∈ L, isU n m = true) → rowsW n (.tup (L.map .mk)) one every = none := fun L one every hL hu => by
    refine rowsW_no (l := L.map .mk) rfl (by rw [List.length_map]; omega) fun i hi => ?_
    unfold badU
    rw [List.getD_eq_getElem?_getD, List.getElem?_eq_getElem hi, List.getElem_map]
    show (!isU n _) = false
    rw [hu _ (List.getElem_mem _)]
    rfl
  rw [wrongS_in h0 h3, key E _ _ hE uE]
  exact key B _ _ hB uB
/-- told or not, as a slot -/
def rO (K : PySem.W.Frag) : Option Wr → Rel
  | none => rNon
  | Option.some r => rWr K r
def rDue (P : Program) (w : World) (K : PySem.W.Frag) (p : Pa) : Option Wr → Rel
  | none => rTup K [rStr "told", rTup K (rPa P w K p)]
  | Option.some r => rRef K r
theorem rDue_told {P : Program} {w : World} {K : PySem.W.Frag} {p : Pa} {n : Nat} {E B : List PT} (h1 : p.md = .int (n : Int)) (h2 : elems p.x = Option.some (E.map .mk)) (h3 : elems p.y = Option.some (B.map .mk)) : rDue P w K p none = rTold' P w K n E B := by
  show rTup K [rStr "told", rTup K [rDt P w K p.md, rMd P w K p.x, rMd P w K p.y]] = _
  rw [h1, rDt_int, rows_rMd h2, rows_rMd h3]
theorem syM_eq {P : Program} {w : World} {K : PySem.W.Frag} {md : Dt} {x y : Md} {n : Nat} {E B : List PT} (h1 : md = .int (n : Int)) (h2 : elems x = Option.some (E.map .mk)) (h3 : elems y = Option.some (B.map .mk)) : rIns (CS K) (syM P w K md x y) = rSy K n E B := by
  show rIns (CS K) [("many", rDt P w K md), ("equations", rPk P w K x), ("barred", rPk P w K y)] = _
  rw [h1, rDt_int, rows_rPk h2, rows_rPk h3]
theorem ot_isNw {B : Bd} {k : Rel → Prop} {r : Wr} (q : k (rBl false)) : OpT B rIsNo (rWr B.K r) rNon k := fun H x y _ h1 h2 Q hQ => by
  cases h2
  cases r with
  | s z =>
    cases h1
    exact ⟨rfl, hQ _ _ H q rfl (Same.refl H)⟩
  | «at» z i =>
    obtain ⟨a, xs, rfl, _⟩ := h1
    exact ⟨rfl, hQ _ _ H q rfl (Same.refl H)⟩
def S_law (P : Program) (w : World) (K : PySem.W.Frag) : Spc := fun rs k => ∃ ns : List Int, rs = [rScr K ns] ∧ ns.length ≤ sizeLine ∧ k (rBl true)
theorem ok_law {P : Program} {w : World} {K : PySem.W.Frag} {mg : Str → Option Value} {base : Heap} {f : Addr} {fd fd_L_is_odd_told fd_System_init fd_L_packed fd_L_made fd_L_wrong fd_L_bent_parts fd_L_marks fd_L_small fd_L_any fd_L_draw fd_L_hand : FuncData} (T : Txt K mg) (F : FunD K "law" "law" (defArgs s_law) (defBody s_law) (defScope s_law) [] [] f fd) (c_L_is_odd_told : Callee P w K mg base (He.ga K "_law_is_odd_told") fd_L_is_odd_told ["_law_hand_here", "_law_system", "_law_many"] 5 (spOf (S_L_is_odd_told P w K))) (c_System_init : CalleeX P w K mg base (He.ma K (He.ga K "System") "__init__") fd_System_init ["self", "many", "equations", "barred"] 4 (spMkY (He.ga K "System") (S_System_initY P w K))) (c_L_packed : Callee P w K mg base (He.ga K "_law_packed") fd_L_packed ["_law_thing"] 36 (spOf (S_L_packed9 30 P w K))) (c_L_made : Callee P w K mg base (He.ga K "_law_made") fd_L_made ["_law_many", "_law_equations", "_law_barred"] 37 (spOf (S_L_made9 P w K))) (c_L_wrong : Callee P w K mg base (He.ga K "_law_wrong") fd_L_wrong ["_law_many", "_law_equations", "_law_barred"] 3 (spOf (S_L_wrong9 P w K))) (c_L_bent_parts : Callee P w K mg base (He.ga K "_law_bent_parts") fd_L_bent_parts ["_law_hand_here", "_law_many", "_law_equations", "_law_barred"] 5 (spOf (S_L_bent_parts P w K))) (c_L_marks : Callee P w K mg base (He.ga K "_law_marks") fd_L_marks ["_law_some"] 2 (spOf (S_L_marks P w K))) (c_L_small : Callee P w K mg base (He.ga K "_law_small") fd_L_small ["_law_hand_here", "_law_many", "_law_most"] 3 (spOf (S_L_small9 P w K))) (c_L_any : Callee P w K mg base (He.ga K "_law_any") fd_L_any ["_law_hand_here", "_law_things"] 2 (spOf (S_L_any P w K))) (c_L_draw : Callee P w K mg base (He.ga K "_law_draw") fd_L_draw ["_law_hand_here", "_law_many"] 1 (spOf (S_L_draw P w K))) (c_L_hand : Callee P w K mg base (He.ga K "_law_hand") fd_L_hand ["_law_script"] 1 (spOf (S_L_hand P w K))) (hS : SyC K) {fd_System_eq : FuncData} (c_System_eq : Callee P w K mg base (He.ma K (CS K) "__eq__") fd_System_eq ["self", "other"] 4 (spOf (S_System_eq P w K))) :
    FnOk P w K mg base CX0 38 f fd ["_law_script"] (spOf (S_law P w K)) := by
  refine F.ok sc_law (len_of (by intro rs k h; first | (obtain ⟨e, _⟩ := h; subst e; exact rfl) | (obtain ⟨_, e, _⟩ := h; subst e; exact rfl) | (obtain ⟨_, _, e, _⟩ := h; subst e; exact rfl) | (obtain ⟨_, _, _, e, _⟩ := h; subst e; exact rfl) | (obtain ⟨_, _, _, _, e, _⟩ := h; subst e; exact rfl) | (obtain ⟨_, _, _, _, _, e, _⟩ := h; subst e; exact rfl) | (obtain ⟨_, _, _, _, _, _, e, _⟩ := h; subst e; exact rfl) | (obtain ⟨_, _, _, _, _, _, _, e, _⟩ := h; subst e; exact rfl) | (obtain ⟨_, _, _, _, _, _, _, _, e, _⟩ := h; subst e; exact rfl) | (obtain ⟨_, _, _, _, _, _, _, _, _, e, _⟩ := h; subst e; exact rfl) | (obtain ⟨_, _, _, _, _, _, _, _, _, _, e, _⟩ := h; subst e; exact rfl) | (obtain ⟨_, _, _, _, _, _, _, _, _, _, _, e, _⟩ := h; subst e; exact rfl) | (obtain ⟨_, _, _, _, _, _, _, _, _, _, _, _, e, _⟩ := h; subst e; exact rfl))) (fun cdv A outer s H vs Q E hr h => ?_)
  
  refine ⟨_, PSs.nox (pss_cons (ps_set (i := 1) sc_law.nd rfl (by first | exact Or.inl rfl | exact Or.inr rfl) (pe_call (c_L_hand.F.mono (by decide)) hr rfl T.g_L_hand c_L_hand.kp c_L_hand.b .nil pass0 (pa_cons (pv 0) pa_nil))) (pss_cons (ps_for PassesOwn.never rfl (pi_range1 rfl T.b_range (pa_cons pe_int pa_nil)) (pg_name (i := 2) sc_law.nd rfl (by first | exact Or.inl rfl | exact Or.inr rfl)) (pss_cons (ps_set (i := 3) sc_law.nd rfl (by first | exact Or.inl rfl | exact Or.inr rfl) (pe_op op_add pe_int (pe_call (c_L_draw.F.mono (by decide)) hr rfl T.g_L_draw c_L_draw.kp c_L_draw.b .nil pass0 (pa_cons (pv 1) (pa_cons pe_int pa_nil))))) (pss_cons (ps_set (i := 4) sc_law.nd rfl (by first | exact Or.inl rfl | exact Or.inr rfl) (pe_call (c_L_marks.F.mono (by decide)) hr rfl T.g_L_marks c_L_marks.kp c_L_marks.b .nil pass0 (pa_cons (pe_frz (pe_lc (own := [("_law_k", 12)]) (g := gName 12) (tt := tYes) rfl sc_law.nd (pi_range1 rfl T.b_range (pa_cons (pe_call (c_L_draw.F.mono (by decide)) hr rfl T.g_L_draw c_L_draw.kp c_L_draw.b .nil pass0 (pa_cons (pv 1) (pa_cons pe_int pa_nil))) pa_nil)) (blkOk_by (own := [("_law_k", 12)]) (N := ["_law_script", "_law_hand_here", "_law_turn", "_law_many", "_law_equations", "_law_barred", "_law_parts", "_law_wrong_here", "_law_due", "_law_system", "_law_again", "_law_other", "_law_k"]) (sc := defScope s_law) (by decide +kernel)) (fun _ _ _ _ _ => (pg_name (i := 12) sc_law.nd rfl (by first | exact Or.inl rfl | exact Or.inr rfl))) (fun _ _ _ _ _ => pts_nil) (fun _ _ _ _ _ => (pe_call (c_L_small.F.mono (by decide)) hr rfl T.g_L_small c_L_small.kp c_L_small.b .nil pass0 (pa_cons (pv 1) (pa_cons (pv 3) (pa_cons pe_int pa_nil))))))) pa_nil))) (pss_cons (ps_set (i := 5) sc_law.nd rfl (by first | exact Or.inl rfl | exact Or.inr rfl) (pe_call (c_L_marks.F.mono (by decide)) hr rfl T.g_L_marks c_L_marks.kp c_L_marks.b .nil pass0 (pa_cons (pe_frz (pe_lc (own := [("_law_k", 12)]) (g := gName 12) (tt := tYes) rfl sc_law.nd (pi_range1 rfl T.b_range (pa_cons (pe_call (c_L_any.F.mono (by decide)) hr rfl T.g_L_any c_L_any.kp c_L_any.b .nil pass0 (pa_cons (pv 1) (pa_cons (pe_frz (pe_lst (pa_cons pe_int (pa_cons pe_int (pa_cons pe_int (pa_cons pe_int pa_nil)))))) pa_nil))) pa_nil)) (blkOk_by (own := [("_law_k", 12)]) (N := ["_law_script", "_law_hand_here", "_law_turn", "_law_many", "_law_equations", "_law_barred", "_law_parts", "_law_wrong_here", "_law_due", "_law_system", "_law_again", "_law_other", "_law_k"]) (sc := defScope s_law) (by decide +kernel)) (fun _ _ _ _ _ => (pg_name (i := 12) sc_law.nd rfl (by first | exact Or.inl rfl | exact Or.inr rfl))) (fun _ _ _ _ _ => pts_nil) (fun _ _ _ _ _ => (pe_call (c_L_small.F.mono (by decide)) hr rfl T.g_L_small c_L_small.kp c_L_small.b .nil pass0 (pa_cons (pv 1) (pa_cons (pv 3) (pa_cons pe_int pa_nil))))))) pa_nil))) (pss_cons (ps_if (pt_cmpR (k_neMd (P := P) (w := w) (K := K) rfl rfl rfl (room_un hr)) (pe_call (c_L_made.F.mono (by decide)) hr rfl T.g_L_made c_L_made.kp c_L_made.b .nil pass0 (pa_cons (pv 3) (pa_cons (pv 4) (pa_cons (pv 5) pa_nil)))) (pe_tup (pa_cons pe_str (pa_cons (pe_tup (pa_cons (pv 3) (pa_cons (pv 4) (pa_cons (pv 5) pa_nil)))) pa_nil))) (nomark _)) (pss_cons (ps_ret pe_bl) pss_nil) pss_nil) (pss_cons (ps_set (i := 6) sc_law.nd rfl (by first | exact Or.inl rfl | exact Or.inr rfl) (pe_call (c_L_bent_parts.F.mono (by decide)) hr rfl T.g_L_bent_parts c_L_bent_parts.kp c_L_bent_parts.b .nil pass0 (pa_cons (pv 1) (pa_cons (pv 3) (pa_cons (pv 4) (pa_cons (pv 5) pa_nil)))))) (pss_cut (ps_set (i := 7) sc_law.nd rfl (by first | exact Or.inl rfl | exact Or.inr rfl) (pe_call (c_L_wrong.F.mono (by decide)) hr rfl T.g_L_wrong c_L_wrong.kp c_L_wrong.b .nil pass0 (pa_cons (pe_ix (k_ixL (K := K) rfl) (pv 6) pe_int (fun _ _ => rfl)) (pa_cons (pe_ix (k_ixL (K := K) rfl) (pv 6) pe_int (fun _ _ => rfl)) (pa_cons (pe_ix (k_ixL (K := K) rfl) (pv 6) pe_int (fun _ _ => rfl)) pa_nil))))) (pss_cut (ps_set (i := 8) sc_law.nd rfl (by first | exact Or.inl rfl | exact Or.inr rfl) (pe_ifExp (pt_cmpR op_isNo (pv 7) pe_non (nomark _)) (pe_tup (pa_cons pe_str (pa_cons (pe_callTy (k_tupleOf (K := K) rfl) rfl T.b_tuple boot_tuple (pa_cons (pv 6) pa_nil)) pa_nil))) (pe_tup (pa_cons pe_str (pa_cons (pv 7) pa_nil))))) (pss_cut (ps_if (pt_cmpR (k_neMd (P := P) (w := w) (K := K) rfl rfl rfl (room_un hr)) (pe_call (c_L_made.F.mono (by decide)) hr rfl T.g_L_made c_L_made.kp c_L_made.b .nil pass0 (pa_cons (pe_ix (k_ixL (K := K) rfl) (pv 6) pe_int (fun _ _ => rfl)) (pa_cons (pe_ix (k_ixL (K := K) rfl) (pv 6) pe_int (fun _ _ => rfl)) (pa_cons (pe_ix (k_ixL (K := K) rfl) (pv 6) pe_int (fun _ _ => rfl)) pa_nil)))) (pv 8) (nomark _)) (pss_cons (ps_ret pe_bl) pss_nil) pss_nil) (pss_cons (ps_set (i := 9) sc_law.nd rfl (by first | exact Or.inl rfl | exact Or.inr rfl) (pe_make (k := 36) T.m_System (c_System_init.F.mono (by decide)) hr rfl T.c_System c_System_init.b .nil passL (pa_cons (pv 3) (pa_cons (pe_call (c_L_packed.F.mono (by decide)) hr rfl T.g_L_packed c_L_packed.kp c_L_packed.b .nil pass0 (pa_cons (pv 4) pa_nil)) (pa_cons (pe_call (c_L_packed.F.mono (by decide)) hr rfl T.g_L_packed c_L_packed.kp c_L_packed.b .nil pass0 (pa_cons (pv 5) pa_nil)) pa_nil))))) (pss_cut (ps_if (pt_cmpR op_isNo (pv 7) pe_non (nomark _)) (pss_cons (ps_set (i := 11) sc_law.nd rfl (by first | exact Or.inl rfl | exact Or.inr rfl) (pe_make (k := 36) T.m_System (c_System_init.F.mono (by decide)) hr rfl T.c_System c_System_init.b .nil passL (pa_cons (pe_ix (k_ixL (K := K) rfl) (pv 6) pe_int (fun _ _ => rfl)) (pa_cons (pe_call (c_L_packed.F.mono (by decide)) hr rfl T.g_L_packed c_L_packed.kp c_L_packed.b .nil pass0 (pa_cons (pe_ix (k_ixL (K := K) rfl) (pv 6) pe_int (fun _ _ => rfl)) pa_nil)) (pa_cons (pe_call (c_L_packed.F.mono (by decide)) hr rfl T.g_L_packed c_L_packed.kp c_L_packed.b .nil pass0 (pa_cons (pe_ix (k_ixL (K := K) rfl) (pv 6) pe_int (fun _ _ => rfl)) pa_nil)) pa_nil))))) (pss_cons (ps_if (pt_cmpR op_ne (pe_cmpR (k_ownB (K := K) (n := 4) rfl rfl rfl rfl rfl c_System_eq hS.eq hS.isf pass0 (hr.mono (by decide))) (pv 9) (pv 11) (nomark _)) (pe_cmpR (k_eqPa (P := P) (w := w) (K := K) rfl rfl rfl (room_un hr)) (pv 6) (pe_frz (pe_lst (pa_cons (pv 3) (pa_cons (pv 4) (pa_cons (pv 5) pa_nil))))) (nomark _)) (nomark _)) (pss_cons (ps_ret pe_bl) pss_nil) pss_nil) pss_nil)) pss_nil) (pss_cons (ps_set (i := 10) sc_law.nd rfl (by first | exact Or.inl rfl | exact Or.inr rfl) (pe_make (k := 36) T.m_System (c_System_init.F.mono (by decide)) hr rfl T.c_System c_System_init.b .nil passL (pa_cons (pv 3) (pa_cons (pe_call (c_L_packed.F.mono (by decide)) hr rfl T.g_L_packed c_L_packed.kp c_L_packed.b .nil pass0 (pa_cons (pv 4) pa_nil)) (pa_cons (pe_call (c_L_packed.F.mono (by decide)) hr rfl T.g_L_packed c_L_packed.kp c_L_packed.b .nil pass0 (pa_cons (pv 5) pa_nil)) pa_nil))))) (pss_cons (ps_if (PW.pt (pw_or (pt_cmpR (k_ownB (K := K) (n := 4) rfl rfl rfl rfl rfl c_System_eq hS.eq hS.isf pass0 (hr.mono (by decide))) (pv 9) (pe_tup (pa_cons (pv 3) (pa_cons (pv 4) (pa_cons (pv 5) pa_nil)))) (nomark _)) (pw_or1 (pt_not (pt_cmpR (k_ownB (K := K) (n := 4) rfl rfl rfl rfl rfl c_System_eq hS.eq hS.isf pass0 (hr.mono (by decide))) (pv 9) (pv 10) (nomark _)))))) (pss_cons (ps_ret pe_bl) pss_nil) pss_nil) (pss_cons (ps_if (pt_not (pt_val (pe_call (c_L_is_odd_told.F.mono (by decide)) hr rfl T.g_L_is_odd_told c_L_is_odd_told.kp c_L_is_odd_told.b .nil pass0 (pa_cons (pv 1) (pa_cons (pv 9) (pa_cons (pv 3) pa_nil)))))) (pss_cons (ps_ret pe_bl) pss_nil) pss_nil) pss_nil)))))))))))))) (pss_cons (ps_ret pe_bl) pss_nil))), ?_⟩
  refine read_of P w K h rfl fun rs k D hs hD hN => ?_
  obtain ⟨ns, rfl, hns, hk⟩ := hs
  have hE0 : RzR H (fun _ _ => False) E0 := ⟨fun _ _ h => h.elim, fun _ _ _ _ _ _ h => h.elim⟩
  ((first | refine ws_asg ?_ | refine ws_asgG ?_); refine we_call ?_; refine wa_cons ?_; refine we_var rfl ?_; refine wa_nil ?_)
  refine ⟨ns, rfl, hns, ?_⟩
  refine ws_forQ (fun _ (_ : Unit) => True) () (fun _ => [.im (rScr K ns), .im (rHand P w), .no, .no, .no, .no, .no, .no, .no, .no, .no, .no, .no]) ?_
  (refine wi_rng1 ?_; refine wa_cons ?_; refine we_c ?_; refine wa_nil ?_; refine ⟨_, rfl, ?_⟩)
  refine ⟨by decide, by decide, by (repeat' (first | exact Weak.nil | apply Weak.eq | apply Weak.no)), trivial, fun j hj u hI G st => ?_, fun u hI => ?_⟩
  rotate_left
  · (refine ws_retS (by assumption) ?_; refine we_c ?_)
    exact hk
  refine ⟨_, _, wg_name, ?_⟩
  ((first | refine ws_asg ?_ | refine ws_asgG ?_); refine we_op ?_; refine we_c ?_; refine we_call ?_; refine wa_cons ?_; refine we_var rfl ?_; refine wa_cons ?_; refine we_c ?_; refine wa_nil ?_)
  refine ⟨3, rfl, by decide, by decide, fun d d0 d1 => ?_⟩
  obtain ⟨n, hn⟩ : ∃ n : Nat, 1 + d = n := ⟨(1 + d).toNat, (Int.toNat_of_nonneg (by omega)).symm⟩
  (refine ot_I0 ?_; (first | refine ws_asg ?_ | refine ws_asgG ?_); refine we_call ?_; refine wa_cons ?_; refine we_frzL ?_)
  rw [hn]
  have h0 : 0 < n := by omega
  have h3 : n ≤ 3 := by omega
  refine wl_lcQ (h := rDI P w K) (fun m => LB (bu n 2) 15 m) ?_
  (refine wi_rng1 ?_; refine wa_cons ?_; refine we_call ?_; refine wa_cons ?_; refine we_var rfl ?_; refine wa_cons ?_; refine we_c ?_; refine wa_nil ?_)
  refine ⟨4, rfl, by decide, by decide, fun d2 e0 e1 => ?_⟩
  (refine wa_nil ?_; refine ⟨_, rfl, ?_⟩)
  refine ⟨by omega, by omega, by rw [sizeLine_eq]; omega, fun i hi G2 st2 => ?_, fun E' hE1 hE2 => ?_⟩
  · refine ⟨_, _, ?_, wg_name, ?_⟩
    · intro j hj; exact hj
    · (refine we_call ?_; refine wa_cons ?_; refine we_var rfl ?_; refine wa_cons ?_; refine we_var rfl ?_; refine wa_cons ?_; refine we_c ?_; refine wa_nil ?_)
      exact ⟨n, 2, rfl, by decide, fun m hm => ⟨m, rfl, hm⟩⟩
  have hE6 : E'.length ≤ 6 := by omega
  (refine wa_nil ?_)
  refine ⟨E', rfl, by omega, ?_⟩
  ((first | refine ws_asg ?_ | refine ws_asgG ?_); refine we_call ?_; refine wa_cons ?_; refine we_frzL ?_)
  refine wl_lcQ (h := rDI P w K) (fun m => LB (bu n 2) 15 m) ?_
  (refine wi_rng1 ?_; refine wa_cons ?_; refine we_call ?_; refine wa_cons ?_; refine we_var rfl ?_; refine wa_cons ?_; (refine we_frzL ?_; refine wl_lst ?_); refine wa_cons ?_; refine we_c ?_; refine wa_cons ?_; refine we_c ?_; refine wa_cons ?_; refine we_c ?_; refine wa_cons ?_; refine we_c ?_; refine wa_nil ?_; refine ⟨Nat.le_of_ble_eq_true rfl, ?_⟩; refine wa_nil ?_)
  refine ⟨_, rfl, by decide, by decide, fun r hr => ?_⟩
  obtain ⟨c, rfl, hc⟩ : ∃ c : Nat, r = rInt (c : Int) ∧ c ≤ 6 := by
    simp only [List.mem_cons, List.not_mem_nil, or_false] at hr
    rcases hr with rfl | rfl | rfl | rfl
    · exact ⟨0, rfl, by decide⟩
    · exact ⟨1, rfl, by decide⟩
    · exact ⟨2, rfl, by decide⟩
    · exact ⟨6, rfl, by decide⟩
  (refine wa_nil ?_; refine ⟨_, rfl, ?_⟩)
  refine ⟨by omega, by omega, by rw [sizeLine_eq]; omega, fun i hi G2 st2 => ?_, fun B' hB1 hB2 => ?_⟩
  · refine ⟨_, _, ?_, wg_name, ?_⟩
    · intro j hj; exact hj
    · (refine we_call ?_; refine wa_cons ?_; refine we_var rfl ?_; refine wa_cons ?_; refine we_var rfl ?_; refine wa_cons ?_; refine we_c ?_; refine wa_nil ?_)
      exact ⟨n, 2, rfl, by decide, fun m hm => ⟨m, rfl, hm⟩⟩
  have hB6 : B'.length ≤ 6 := by omega
  (refine wa_nil ?_)
  refine ⟨B', rfl, by omega, ?_⟩
  have tE : ∀ m ∈ E', TsB m := fun m hm => bu_tsb (hE2 m hm)
  have tB : ∀ m ∈ B', TsB m := fun m hm => bu_tsb (hB2 m hm)
  have hw : wrongS (.int (n : Int)) (.tup (E'.map .mk)) (.tup (B'.map .mk)) = none := right_of h0 h3 hE6 hB6 (fun m hm => bu_isU (hE2 m hm).bx h3) (fun m hm => bu_isU (hB2 m hm).bx h3)
  have okE : OkM 25 (.tup (E'.map .mk)) := .tup (by rw [List.length_map]; omega) (ok_mks tE)
  have okB : OkM 25 (.tup (B'.map .mk)) := .tup (by rw [List.length_map]; omega) (ok_mks tB)
  have eE : rMd P w K (.tup (E'.map .mk)) = rTup K (E'.map (rMk P w K)) := by rw [rMd_tup, ← mk_map]
  have eB : rMd P w K (.tup (B'.map .mk)) = rTup K (B'.map (rMk P w K)) := by rw [rMd_tup, ← mk_map]
  (refine ws_if ?_; refine wt_test ?_; refine we_op ?_; refine we_call ?_; refine wa_cons ?_; refine we_var rfl ?_; refine wa_cons ?_; refine we_var rfl ?_; refine wa_cons ?_; refine we_var rfl ?_; refine wa_nil ?_)
  refine ⟨25, .int (n : Int), .tup (E'.map .mk), .tup (B'.map .mk), by rw [rDt_int, eE, eB], okE, okB, by decide, fun n' E2 B2 _ hn' hE' hB' => ?_, fun r hr => absurd hr (by rw [hw]; exact fun z => nomatch z)⟩
  obtain rfl : n = n' := by injection hn' with z; omega
  obtain rfl : E' = E2 := mk_inj hE'
  obtain rfl : B' = B2 := mk_inj hB'
  (refine we_tup ?_; refine wa_cons ?_; refine we_c ?_; refine wa_cons ?_; refine we_tup ?_; refine wa_cons ?_; refine we_var rfl ?_; refine wa_cons ?_; refine we_var rfl ?_; refine wa_cons ?_; refine we_var rfl ?_; refine wa_nil ?_; refine ⟨Nat.le_of_ble_eq_true rfl, ?_⟩; refine wa_nil ?_; refine ⟨Nat.le_of_ble_eq_true rfl, ?_⟩)
  refine ot_neMd1 tE tB ?_
  refine ⟨_, rfl, (fun z => nomatch z), fun _ => ?_⟩
  refine ws_thru ?_
  ((first | refine ws_asg ?_ | refine ws_asgG ?_); refine we_call ?_; refine wa_cons ?_; refine we_var rfl ?_; refine wa_cons ?_; refine we_var rfl ?_; refine wa_cons ?_; refine we_var rfl ?_; refine wa_cons ?_; refine we_var rfl ?_; refine wa_nil ?_)
  refine ⟨n, E', B', rfl, hE6, hB6, tE, tB, fun p => ?_⟩
  refine ws_cutEx (fun o : {o : Option Wr // wrongS p.md p.x p.y = o} => [.im (rScr K ns), .im (rHand P w), .im (rInt (j : Int)), .im (rInt (n : Int)), .im (rTup K (E'.map (rMk P w K))), .im (rTup K (B'.map (rMk P w K))), .im (rLst (rPa P w K p)), .im (rO K o.1), .no, .no, .no, .no, .no]) ?_ fun ⟨o, ho⟩ => ?_
  · refine ws_asg1 ?_
    (refine we_call ?_; refine wa_cons ?_; refine we_op ?_; refine we_var rfl ?_; refine we_c ?_)
    refine ot_ixL (r := rDt P w K p.md) rfl ?_
    (refine wa_cons ?_; refine we_op ?_; refine we_var rfl ?_; refine we_c ?_)
    refine ot_ixL (r := rMd P w K p.x) rfl ?_
    (refine wa_cons ?_; refine we_op ?_; refine we_var rfl ?_; refine we_c ?_)
    refine ot_ixL (r := rMd P w K p.y) rfl ?_
    (refine wa_nil ?_)
    exact ⟨25, p.md, p.x, p.y, rfl, p.hx, p.hy, fun h σ H E => ⟨⟨none, h⟩, E.wk (by (repeat' (first | exact Weak.nil | apply Weak.eq | apply Weak.no)))⟩, fun r h σ H E => ⟨⟨Option.some r, h⟩, E.wk (by (repeat' (first | exact Weak.nil | apply Weak.eq | apply Weak.no)))⟩⟩
  refine ws_cutEx (fun _ : Unit => [.im (rScr K ns), .im (rHand P w), .im (rInt (j : Int)), .im (rInt (n : Int)), .im (rTup K (E'.map (rMk P w K))), .im (rTup K (B'.map (rMk P w K))), .im (rLst (rPa P w K p)), .im (rO K o), .im (rDue P w K p o), .no, .no, .no, .no]) ?_ fun _ => ?_
  · refine ws_asg1 ?_
    cases o with
    | none =>
      (refine we_if ?_; refine wt_test ?_; refine we_op ?_; refine we_var rfl ?_; refine we_c ?_)
      refine ot_isN0 ?_
      refine ⟨_, rfl, fun _ => ?_, fun z => nomatch z⟩
      (refine we_tup ?_; refine wa_cons ?_; refine we_c ?_; refine wa_cons ?_; (first | refine we_cb ?_ | refine we_xlen ?_); refine wa_cons ?_; refine we_var rfl ?_; refine wa_nil ?_; refine ct_tuple ?_; refine wa_nil ?_; refine ⟨Nat.le_of_ble_eq_true rfl, ?_⟩)
      exact fun σ H E => ⟨(), E.wk (by (repeat' (first | exact Weak.nil | apply Weak.eq | apply Weak.no)))⟩
    | some r =>
      (refine we_if ?_; refine wt_test ?_; refine we_op ?_; refine we_var rfl ?_; refine we_c ?_)
      refine ot_isNw ?_
      refine ⟨_, rfl, fun z => (nomatch z), fun _ => ?_⟩
      (refine we_tup ?_; refine wa_cons ?_; refine we_c ?_; refine wa_cons ?_; refine we_var rfl ?_; refine wa_nil ?_; refine ⟨Nat.le_of_ble_eq_true rfl, ?_⟩)
      exact fun σ H E => ⟨(), E.wk (by (repeat' (first | exact Weak.nil | apply Weak.eq | apply Weak.no)))⟩
  refine ws_cutEx (fun _ : Unit => [.im (rScr K ns), .im (rHand P w), .im (rInt (j : Int)), .im (rInt (n : Int)), .im (rTup K (E'.map (rMk P w K))), .im (rTup K (B'.map (rMk P w K))), .im (rLst (rPa P w K p)), .im (rO K o), .im (rDue P w K p o), .no, .no, .no, .no]) ?_ fun _ => ?_
  · refine ws_if1 ?_
    (refine wt_test ?_; refine we_op ?_; refine we_call ?_; refine wa_cons ?_; refine we_op ?_; refine we_var rfl ?_; refine we_c ?_)
    refine ot_ixL (r := rDt P w K p.md) rfl ?_
    (refine wa_cons ?_; refine we_op ?_; refine we_var rfl ?_; refine we_c ?_)
    refine ot_ixL (r := rMd P w K p.x) rfl ?_
    (refine wa_cons ?_; refine we_op ?_; refine we_var rfl ?_; refine we_c ?_)
    refine ot_ixL (r := rMd P w K p.y) rfl ?_
    (refine wa_nil ?_)
    refine ⟨25, p.md, p.x, p.y, rfl, p.hx, p.hy, by decide, fun n' E2 B2 hw' hmd hX hY => ?_, fun r hr => ?_⟩
    · obtain rfl : o = none := ho.symm.trans hw'
      (refine we_var rfl ?_)
      rw [rDue_told hmd hX hY]
      refine ot_neMd1 (rows_ok hX p.hx) (rows_ok hY p.hy) ?_
      refine ⟨_, rfl, (fun z => nomatch z), fun _ => ?_⟩
      exact fun σ H E => ⟨(), E.wk (by (repeat' (first | exact Weak.nil | apply Weak.eq | apply Weak.no)))⟩
    · obtain rfl : o = Option.some r := ho.symm.trans hr
      (refine we_var rfl ?_)
      refine ot_neMd2 (r := r) ?_
      refine ⟨_, rfl, (fun z => nomatch z), fun _ => ?_⟩
      exact fun σ H E => ⟨(), E.wk (by (repeat' (first | exact Weak.nil | apply Weak.eq | apply Weak.no)))⟩
  have made : ∀ {Γ : BX.Ctx} {k' : Rel → Prop}, Γ[3]? = Option.some (.im (rInt (n : Int))) → Γ[4]? = Option.some (.im (rTup K (E'.map (rMk P w K)))) → Γ[5]? = Option.some (.im (rTup K (B'.map (rMk P w K)))) → k' (rSy K n E' B') →
      WpE ((bd P w K H).more G st) Γ (tMake (CS K) (spMkY (CS K) (S_System_initY P w K)) [] E0 (tCons (tVar 3) (tCons (tCall (spOf (S_L_packed9 30 P w K)) [] E0 (tCons (tVar 4) tNil)) (tCons (tCall (spOf (S_L_packed9 30 P w K)) [] E0 (tCons (tVar 5) tNil)) tNil)))) k' := by
    intro Γ k' g3 g4 g5 hk'
    refine we_makeY (e := fun _ _ => False) hE0 ?_
    refine wa_cons ?_
    refine we_var g3 ?_
    refine wa_cons ?_
    refine we_call ?_
    refine wa_cons ?_
    refine we_var g4 ?_
    refine wa_nil ?_
    refine ⟨29, .tup (E'.map .mk), by rw [eE], rfl, okE.mono (by decide), ?_⟩
    refine wa_cons ?_
    refine we_call ?_
    refine wa_cons ?_
    refine we_var g5 ?_
    refine wa_nil ?_
    refine ⟨29, .tup (B'.map .mk), by rw [eB], rfl, okB.mono (by decide), ?_⟩
    refine wa_nil ?_
    refine ⟨_, True, ⟨25, .int (n : Int), .tup (E'.map .mk), .tup (B'.map .mk), by rw [rDt_int], okE, okB, rfl, fun _ => trivial, fun r hr => absurd hr (by rw [hw]; exact fun z => nomatch z)⟩, fun _ => ?_⟩
    rw [syM_eq rfl rfl rfl]
    exact hk'
  refine ws_asg ?_
  refine made rfl rfl rfl ?_
  refine ws_cutEx (fun _ : Unit => [.im (rScr K ns), .im (rHand P w), .im (rInt (j : Int)), .im (rInt (n : Int)), .im (rTup K (E'.map (rMk P w K))), .im (rTup K (B'.map (rMk P w K))), .no, .no, .no, .im (rSy K n E' B'), .no, .no, .no]) ?_ fun _ => ?_
  · refine ws_if1 ?_
    cases o with
    | some r =>
      (refine wt_test ?_; refine we_op ?_; refine we_var rfl ?_; refine we_c ?_)
      refine ot_isNw ?_
      refine ⟨_, rfl, fun z => (nomatch z), fun _ => ?_⟩
      exact fun σ H E => ⟨(), E.wk (by (repeat' (first | exact Weak.nil | apply Weak.eq | apply Weak.no)))⟩
    | none =>
      (refine wt_test ?_; refine we_op ?_; refine we_var rfl ?_; refine we_c ?_)
      refine ot_isN0 ?_
      refine ⟨_, rfl, fun _ => ?_, fun z => (nomatch z)⟩
      obtain ⟨n2, E2, B2, hmd, _, _, hX, _, hY, _⟩ := wrong_right ho
      refine ws_asg ?_
      refine we_makeY (e := fun _ _ => False) hE0 ?_
      (refine wa_cons ?_; refine we_op ?_; refine we_var rfl ?_; refine we_c ?_)
      refine ot_ixL (r := rDt P w K p.md) rfl ?_
      (refine wa_cons ?_; refine we_call ?_; refine wa_cons ?_; refine we_op ?_; refine we_var rfl ?_; refine we_c ?_)
      refine ot_ixL (r := rMd P w K p.x) rfl ?_
      (refine wa_nil ?_)
      refine ⟨29, p.x, rfl, rfl, p.hx.mono (by decide), ?_⟩
      (refine wa_cons ?_; refine we_call ?_; refine wa_cons ?_; refine we_op ?_; refine we_var rfl ?_; refine we_c ?_)
      refine ot_ixL (r := rMd P w K p.y) rfl ?_
      (refine wa_nil ?_)
      refine ⟨29, p.y, rfl, rfl, p.hy.mono (by decide), ?_⟩
      (refine wa_nil ?_)
      refine ⟨_, True, ⟨25, p.md, p.x, p.y, rfl, p.hx, p.hy, rfl, fun _ => trivial, fun r hr => absurd hr (by rw [ho]; exact fun z => nomatch z)⟩, fun _ => ?_⟩
      rw [syM_eq hmd hX hY]
      have ePa : rPa P w K p = rPr P w K n2 E2 B2 := by
        show [rDt P w K p.md, rMd P w K p.x, rMd P w K p.y] = _
        rw [hmd, rDt_int, rows_rMd hX, rows_rMd hY]
      (refine ws_if ?_; refine wt_test ?_; refine we_op ?_; refine we_op ?_; refine we_var rfl ?_; refine we_var rfl ?_)
      refine ot_ownB (.inl ⟨_, rfl⟩) ⟨n, E', B', _, rfl, .inl ⟨n2, E2, B2, rfl, ?_⟩⟩
      (refine we_op ?_; refine we_var rfl ?_; (refine we_frzL ?_; refine wl_lst ?_); refine wa_cons ?_; refine we_var rfl ?_; refine wa_cons ?_; refine we_var rfl ?_; refine wa_cons ?_; refine we_var rfl ?_; refine wa_nil ?_; refine ⟨Nat.le_of_ble_eq_true rfl, ?_⟩)
      rw [ePa]
      refine ot_eqPa (rows_ok hX p.hx) (rows_ok hY p.hy) ?_
      rw [eqSy_pr tE tB (rows_ok hX p.hx) (rows_ok hY p.hy)]
      (refine ot_ne rfl ?_; refine ⟨_, rfl, ?_⟩)
      rw [decide_eq_true rfl]
      refine ⟨fun z => (nomatch z), fun _ => ?_⟩
      exact fun σ H E => ⟨(), E.wk (by (repeat' (first | exact Weak.nil | apply Weak.eq | apply Weak.no)))⟩
  ((first | refine ws_asg ?_ | refine ws_asgG ?_))
  refine made rfl rfl rfl ?_
  (refine ws_if ?_; refine wt_or ?_; refine wt_test ?_; refine we_op ?_; refine we_var rfl ?_; refine we_tup ?_; refine wa_cons ?_; refine we_var rfl ?_; refine wa_cons ?_; refine we_var rfl ?_; refine wa_cons ?_; refine we_var rfl ?_; refine wa_nil ?_; refine ⟨Nat.le_of_ble_eq_true rfl, ?_⟩)
  refine ot_ownB (.inr ⟨_, rfl, hS.nft⟩) ⟨n, E', B', _, rfl, .inr ⟨_, rfl, ?_⟩⟩
  refine ⟨_, rfl, (fun z => nomatch z), fun _ => ?_⟩
  (refine wt_not ?_; refine wt_test ?_; refine we_op ?_; refine we_var rfl ?_; refine we_var rfl ?_)
  refine ot_ownB (.inl ⟨_, rfl⟩) ⟨n, E', B', _, rfl, .inl ⟨n, E', B', rfl, ?_⟩⟩
  rw [eqSy_self]
  refine ⟨_, rfl, fun z => (nomatch z), fun _ => ?_⟩
  refine ws_thru ?_
  (refine ws_if ?_; refine wt_not ?_; refine wt_B ?_; refine we_call ?_; refine wa_cons ?_; refine we_var rfl ?_; refine wa_cons ?_; refine we_var rfl ?_; refine wa_cons ?_; refine we_var rfl ?_; refine wa_nil ?_)
  refine ⟨n, E', B', rfl, h0, h3, ?_⟩
  refine ⟨_, rfl, fun z => (nomatch z), fun _ => ?_⟩
  refine ws_thru ?_
  exact fun σ H E => ⟨(), trivial, E.wk (by (repeat' (first | exact Weak.nil | apply Weak.eq | apply Weak.no)))⟩
end Lw
set_option Elab.async false
set_option linter.all false
set_option maxRecDepth 100000
set_option maxHeartbeats 2000000
/-! Z15: the errors' facts by names, off the written part. -/
namespace Lw
open PySem PySem.Spec PyProof.Rows L2 BX EX NdefX
def excCB (K : PySem.W.Frag) (D : Addr) : Bool := He.eqO (PySem.W.findIn K (.ref D) "__getattribute__") (some (some (.builtin "BaseException.__getattribute__"))) && (He.eqO (PySem.W.findIn K (.ref D) "__getattr__") (some none) && (decide (PySem.W.subIn K (.ref D) (.type "BaseException") = some true) &&
  (PySem.W.hasDictIn K D && (He.eqO (PySem.W.findIn K (.ref D) "__class__") (some (some (.builtin "object.__class__"))) && (He.eqO (PySem.W.specialIn K (.builtin "object.__class__") "__get__") (some (some (.builtin "getset_descriptor.__get__"))) &&
  (decide (PySem.W.takesIn K (.builtin "object.__class__") = some true) && decide (PySem.W.mroIn K D (.type "object") = some true)))))))
theorem excCB_ok {K : PySem.W.Frag} {D : Addr} (h : excCB K D = true) : ExcC K D := by
  obtain ⟨h1, h⟩ := He.ba h
  obtain ⟨h2, h⟩ := He.ba h
  obtain ⟨h3, h⟩ := He.ba h
  obtain ⟨h4, h⟩ := He.ba h
  obtain ⟨h5, h⟩ := He.ba h
  obtain ⟨h6, h⟩ := He.ba h
  obtain ⟨h7, h8⟩ := He.ba h
  exact ⟨He.eqO_ok h1, He.eqO_ok h2, of_decide_eq_true h3, h4, He.eqO_ok h5, He.eqO_ok h6, of_decide_eq_true h7, of_decide_eq_true h8⟩
def erB (K : PySem.W.Frag) : Bool := excCB K (BS K) && (He.eqO (PySem.W.findIn K (.ref (BS K)) "part") (some none) && (decide (PySem.W.exmOne K (.ref (BS K)) (.ref (BS K)) = some true) &&
  (decide (PySem.W.kitOne K (.ref (BS K)) (.ref (He.ga K "RootError")) = some true) && decide (PySem.W.kitOne K (.ref (BS K)) (.type "ValueError") = some true))))
theorem erB_ok {K : PySem.W.Frag} (h : erB K = true) : ErF K := by
  obtain ⟨h1, h⟩ := He.ba h
  obtain ⟨h2, h⟩ := He.ba h
  obtain ⟨h3, h⟩ := He.ba h
  obtain ⟨h4, h5⟩ := He.ba h
  have c := excCB_ok h1
  exact ⟨c, ⟨⟨c.hg, c.hk, c.hs, c.hd⟩, He.eqO_ok h2⟩, of_decide_eq_true h3, of_decide_eq_true h4, of_decide_eq_true h5⟩
/-- no Poly by nature -/
def noPoB (K : PySem.W.Frag) : Bool := (["NoneType", "bool", "int", "str", "tuple", "list", "dict"] : List String).all fun t => decide (PySem.W.kitOne K (.type t) (.ref (CP K)) = some false)
theorem noPoB_ok {K : PySem.W.Frag} (h : noPoB K = true) : NoPo K := fun x _ => by
  have key : ∀ t ∈ (["NoneType", "bool", "int", "str", "tuple", "list", "dict"] : List String), PySem.W.kitOne K (.type t) (.ref (CP K)) = Option.some false := fun t ht => of_decide_eq_true (List.all_eq_true.mp h t ht)
  cases x with
  | dt d => cases d <;> exact key _ (by simp [tyM, tyD])
  | mk m => exact key _ (by simp [tyM])
  | tup l => exact key _ (by simp [tyM])
  | lst l => exact key _ (by simp [tyM])
/-- the class of systems -/
def syB (K : PySem.W.Frag) : Bool := He.eqO (PySem.W.findIn K (.ref (CS K)) "__class__") (some (some (.builtin "object.__class__"))) && (He.eqO (PySem.W.specialIn K (.builtin "object.__class__") "__get__") (some (some (.builtin "getset_descriptor.__get__"))) &&
  (decide (PySem.W.takesIn K (.builtin "object.__class__") = some true) && (decide (PySem.W.mroIn K (CS K) (.type "object") = some true) && (decide (PySem.W.kitOne K (.ref (CS K)) (.ref (CS K)) = some true) && (decide (PySem.W.kitOne K (.type "tuple") (.ref (CS K)) = some false) &&
  (decide (PySem.W.kitOne K (.ref (CS K)) (.type "tuple") = some false) && (He.eqO (PySem.W.findIn K (.ref (CS K)) "__eq__") (some (some (.ref (He.ma K (CS K) "__eq__")))) && (PySem.W.isFn K (.ref (He.ma K (CS K) "__eq__")) && PySem.W.notFirst K (CS K) (.type "tuple")))))))))
theorem syB_ok {K : PySem.W.Frag} (cl : Cls K (CS K)) (nm : NoAttr K (CS K) "many") (ne : NoAttr K (CS K) "equations") (nb : NoAttr K (CS K) "barred") (h : syB K = true) : SyC K := by
  obtain ⟨h1, h⟩ := He.ba h
  obtain ⟨h2, h⟩ := He.ba h
  obtain ⟨h3, h⟩ := He.ba h
  obtain ⟨h4, h⟩ := He.ba h
  obtain ⟨h5, h⟩ := He.ba h
  obtain ⟨h6, h⟩ := He.ba h
  obtain ⟨h7, h⟩ := He.ba h
  obtain ⟨h8, h⟩ := He.ba h
  obtain ⟨h9, h10⟩ := He.ba h
  exact ⟨cl, nm, ne, nb, He.eqO_ok h1, He.eqO_ok h2, of_decide_eq_true h3, of_decide_eq_true h4, of_decide_eq_true h5, of_decide_eq_true h6, of_decide_eq_true h7, He.eqO_ok h8, h9, h10⟩
/-- the sizes of steps -/
def szB (K : PySem.W.Frag) : Bool := He.valsB K (He.ga K "SIZES") [("part", .int 2), ("none", .int 3), ("add", .int 4)] && He.eqO (PySem.W.nsIn K (He.ga K "SIZES") "parts") (some none)
theorem szB_ok {K : PySem.W.Frag} (h : szB K = true) : SzV K := by
  obtain ⟨h1, h2⟩ := He.ba h
  refine ⟨fun q hq => ?_, He.eqO_ok h2⟩
  simp only [List.mem_cons, List.not_mem_nil, or_false] at hq
  rcases hq with rfl | rfl | rfl
  · exact He.valsB_ok h1 (q := ("part", .int 2)) (by simp)
  · exact He.valsB_ok h1 (q := ("none", .int 3)) (by simp)
  · exact He.valsB_ok h1 (q := ("add", .int 4)) (by simp)
abbrev AlDc : Type := List (Option (List (Option (Str × Int))))
/-! ### a class with its own __init__ -/
abbrev FnC : Type := Option (Str × Str × Arguments × FuncBody × Scope × Addr × List Str × Value × Addr)
def fnC (K : PySem.W.Frag) (x : Str) : FnC := match K.lookup (He.ma K (He.ga K x) "__init__") with
  | Option.some ⟨_, _, .func fd, _⟩ => Option.some (fd.name, fd.qualname, fd.params, fd.body, fd.scope, fd.globals, fd.closure.map (·.1), fd.defaults, fd.builtins)
  | _ => none
def oexB (K : PySem.W.Frag) (C : Addr) : Bool := match K.lookup C with
  | Option.some ⟨.type "type", _, .cls ⟨_, _, .ref C' :: bm, _, _, true, _, _, _, _, false⟩, sl⟩ => C' == C && (PySem.HandSPX.refsVE bm && match sl.toList with
    | [_, _, _, _, Option.some (.builtin n), _] => n == "ValueError.__new__"
    | _ => false)
  | _ => false
theorem oexB_ok {K : PySem.W.Frag} {C : Addr} (h : oexB K C = true) : ∃ nm q N bs bm sn sub ab col dd k0 k1 k2 k3 k5, K.lookup C = some (excClassObj nm q C N bs bm true sn sub ab col dd k0 k1 k2 k3 k5 "ValueError.__new__") ∧ PySem.HandSPX.refsVE bm = true := by
  unfold oexB at h
  split at h
  · rename_i dd nm bs C' bm N q sn sub ab col sl e
    obtain ⟨h1, h⟩ := He.ba h
    obtain ⟨h2, h3⟩ := He.ba h
    split at h3
    · rename_i k0 k1 k2 k3 n k5 esl
      have e3 : sl = #[k0, k1, k2, k3, Option.some (.builtin n), k5] := by rw [← Array.toArray_toList (xs := sl), esl]
      subst e3
      have e1 := beq_iff_eq.mp h1
      have e2 := beq_iff_eq.mp h3
      subst e1 e2
      exact ⟨nm, q, N, bs, bm, sn, sub, ab, col, dd, k0, k1, k2, k3, k5, e, h2⟩
    · cases h3
  · cases h
def cloB (K : PySem.W.Frag) (C : Addr) (mf : Str) (fd : FuncData) : Bool := PySem.W.codeIn K fd.code fd.qualname && ((match fd.closure with
    | [(_, cc)] => (match K.lookup cc with
      | Option.some ⟨_, _, .cell (Option.some (.ref D)), _⟩ => D == C
      | _ => false)
    | _ => false) && (match fd.code with
    | .ref cda => (match K.lookup cda with
      | Option.some ⟨_, _, .fields vs, _⟩ => (match vs[2]? with
        | Option.some (Value.str fl _) => mf == fl
        | _ => false)
      | _ => false)
    | _ => false))
def oinB (K : PySem.W.Frag) (mf x f : Str) : Bool := oexB K (He.ga K x) && (He.eqO (PySem.W.findIn K (.ref (He.ga K x)) "__setattr__") (some (some (.builtin "object.__setattr__"))) && (decide (PySem.W.subIn K (.ref (He.ga K x)) (.type "BaseException") = some true) &&
  (decide (PySem.W.typeIn K (.ref (He.ga K x)) = some (.type "type")) && (PySem.W.keepIn K (.ref (He.ga K x)) && (He.eqO (PySem.W.findIn K (.ref (He.ga K x)) "__init__") (some (some (.ref (He.ma K (He.ga K x) "__init__")))) &&
  (decide (PySem.W.typeIn K (.ref (He.ma K (He.ga K x) "__init__")) = some (.type "function")) && (He.eqO (PySem.W.findIn K (.ref (He.ga K x)) f) (some none) && (He.eqO (PySem.W.ks_superIn K (He.ga K x) (He.ga K x) "__init__") (some (some (.builtin "ValueError.__init__"))) &&
  (decide (PySem.W.subIn K (.ref (He.ga K x)) (.type "ValueError") = some true) && (decide (PySem.W.mroIn K (He.ga K x) (.ref (He.ga K x)) = some true) && (He.eqO (PySem.W.nsIn K cStatics "thirdparty.any") (some none) &&
  (match K.lookup (He.ma K (He.ga K x) "__init__") with
  | Option.some ⟨_, _, .func fd, _⟩ => cloB K (He.ga K x) mf fd
  | _ => false))))))))))))
theorem own_ok {P : Program} {w : World} {K : PySem.W.Frag} {mg : Str → Option Value} {base : Heap} {x f mf qual : Str} {q1 q2 p0 p1 p2 p3 p4 p5 p6 p7 p8 p9 : Pos} (hmf : P.main.file = mf) (htop : (P.main.scope.names.lookup ("super" : Str)).isSome = false) (hmg : mg "super" = none) (h : oinB K mf x f = true)
    (ho : fnC K x = (Option.some ("__init__", qual, initArgs f q1 q2, FuncBody.stmts (initBody f f p0 p1 p2 p3 p4 p5 p6 p7 p8 p9), initScope f, mainGlobals, ["__class__"], Value.none, builtinsNs) : FnC)) (S : NScope ["self", f, "__class__"] ["self", f] ["__class__"] (initScope f)) (hks : (initScope f).names.lookup ("super" : Str) = some .globalImplicit)
    (hx : (f == ("__debug__" : Str)) = false) (hx2 : (f == ("__classdict__" : Str)) = false)
    (hbd : ∀ (kV doc pm : Value) (an : Option Addr) (cdv ct : Value) (cc : Addr) (us : List Value), us.length = 2 → bindArgs (PySem.W.ksFn "__init__" qual (initArgs f q1 q2) (initBody f f p0 p1 p2 p3 p4 p5 p6 p7 p8 p9) (initScope f) .none kV doc pm an cdv ct cc) ⟨us, []⟩ = pure ((["self", f] : List Str).zip us))
    {pl : PySem.Env → Sem Bool} (hev : ∀ env : PySem.Env, eval (.Call (.Attribute (.Call (.Name "super" p0) [] [] p1) "__init__" p2) [.Name f p3] [] p4) env = (do
      let ov ← attributeBase (.Call (.Name "super" p0) [] [] p1) "__init__" env (eval (.Call (.Name "super" p0) [] [] p1) env)
      standAt p2.atName
      let (g, first) ← holding [ov] (getMethod ov "__init__" (pl env))
      callWith p4 g first (backTo p4 (starEach [.Name f p3] env)) [])) : ∃ fI fd, OwnE P w K mg base (He.ga K x) fI fd f := by
  obtain ⟨h1, h⟩ := He.ba h
  obtain ⟨h2, h⟩ := He.ba h
  obtain ⟨h3, h⟩ := He.ba h
  obtain ⟨h4, h⟩ := He.ba h
  obtain ⟨h5, h⟩ := He.ba h
  obtain ⟨h6, h⟩ := He.ba h
  obtain ⟨h7, h⟩ := He.ba h
  obtain ⟨h8, h⟩ := He.ba h
  obtain ⟨h9, h⟩ := He.ba h
  obtain ⟨h10, h⟩ := He.ba h
  obtain ⟨h11, h⟩ := He.ba h
  obtain ⟨h12, h13⟩ := He.ba h
  have T : OexC K (He.ga K x) := ⟨oexB_ok h1, He.eqO_ok h2, of_decide_eq_true h3, of_decide_eq_true h4, h5⟩
  unfold fnC at ho
  split at h13
  · rename_i oc od fd osl e
    rw [e] at ho
    obtain ⟨hc1, h⟩ := He.ba h13
    obtain ⟨hc2, hc3⟩ := He.ba h
    obtain ⟨n1, n2, n3, n4, n5, n6, n7, n8, n9, n10, n11, n12, n13, n14, n15⟩ := fd
    simp only [Option.some.injEq, Prod.mk.injEq] at ho
    obtain ⟨e1, e2, e3, e4, e5, e6, e7, e8, e9⟩ := ho
    subst e1 e2 e3 e4 e5 e6 e8 e9
    split at hc2
    · rename_i cn cc ecl
      dsimp only at ecl
      subst ecl
      have ecn : cn = "__class__" := by simpa using e7
      subst ecn
      split at hc2
      · rename_i cl cld D csl ecc
        have eD := beq_iff_eq.mp hc2
        subst eD
        split at hc3
        · rename_i cda ecd
          dsimp only at ecd
          subst ecd
          split at hc3
          · rename_i ccl cdd vs ccs ecf
            split at hc3
            · rename_i fl tf evs
              have ef := beq_iff_eq.mp hc3
              have I : InitC P K (He.ga K x) (He.ma K (He.ga K x) "__init__") f cda cc := ⟨T, He.eqO_ok h8, ⟨_, _, _, _, _, _, ecf, evs, by rw [hmf, ef]; exact beq_self_eq_true _⟩, ⟨_, _, _, ecc⟩, He.eqO_ok h9, of_decide_eq_true h10, of_decide_eq_true h11, He.eqO_ok h12, htop⟩
              exact ⟨_, _, T, He.eqO_ok h6, of_decide_eq_true h7, init_ok (k := 0) e hc1 I S hks hx hx2 hmg hev, .all fun us hl => hbd _ _ _ _ _ _ _ us hl⟩
            · cases hc3
          · cases hc3
        · cases hc3
      · cases hc2
    · cases hc2
  · cases h13
end Lw
set_option Elab.async false
set_option linter.all false
set_option maxRecDepth 100000
set_option maxHeartbeats 1000000
namespace Lw
open PySem PySem.Spec PyProof.Rows L2 BX EX
def d_is_integer : He.DefD := ⟨("is_integer", none), "is_integer", "is_integer", defArgs s_is_integer, defBody s_is_integer, defScope s_is_integer, [], []⟩
def d_is_within : He.DefD := ⟨("is_within", none), "is_within", "is_within", defArgs s_is_within, defBody s_is_within, defScope s_is_within, [], []⟩
def d_divisor_of : He.DefD := ⟨("divisor_of", none), "divisor_of", "divisor_of", defArgs s_divisor_of, defBody s_divisor_of, defScope s_divisor_of, [], []⟩
def d_is_fraction : He.DefD := ⟨("is_fraction", none), "is_fraction", "is_fraction", defArgs s_is_fraction, defBody s_is_fraction, defScope s_is_fraction, [], []⟩
def d_is_term : He.DefD := ⟨("is_term", none), "is_term", "is_term", defArgs s_is_term, defBody s_is_term, defScope s_is_term, [], []⟩
def d_Poly_init : He.DefD := ⟨("Poly", some "__init__"), "__init__", "Poly.__init__", defArgs s_Poly_init, defBody s_Poly_init, defScope s_Poly_init, [], []⟩
def d_Poly_eq : He.DefD := ⟨("Poly", some "__eq__"), "__eq__", "Poly.__eq__", defArgs s_Poly_eq, defBody s_Poly_eq, defScope s_Poly_eq, [], []⟩
def d_is_in : He.DefD := ⟨("is_in", none), "is_in", "is_in", defArgs s_is_in, defBody s_is_in, defScope s_is_in, [], []⟩
def d_is_poly_in : He.DefD := ⟨("is_poly_in", none), "is_poly_in", "is_poly_in", defArgs s_is_poly_in, defBody s_is_poly_in, defScope s_is_poly_in, [], []⟩
def d_check_polys : He.DefD := ⟨("check_polys", none), "check_polys", "check_polys", defArgs s_check_polys, defBody s_check_polys, defScope s_check_polys, [], []⟩
def d_System_init : He.DefD := ⟨("System", some "__init__"), "__init__", "System.__init__", defArgs s_System_init, defBody s_System_init, defScope s_System_init, [], []⟩
def d_System_eq : He.DefD := ⟨("System", some "__eq__"), "__eq__", "System.__eq__", defArgs s_System_eq, defBody s_System_eq, defScope s_System_eq, [], []⟩
def d_is_point : He.DefD := ⟨("is_point", none), "is_point", "is_point", defArgs s_is_point, defBody s_is_point, defScope s_is_point, [], []⟩
def d_is_root : He.DefD := ⟨("is_root", none), "is_root", "is_root", defArgs s_is_root, defBody s_is_root, defScope s_is_root, [], []⟩
def d_states_behind : He.DefD := ⟨("states_behind", none), "states_behind", "states_behind", defArgs s_states_behind, defBody s_states_behind, defScope s_states_behind, [], []⟩
def d_walked : He.DefD := ⟨("walked", none), "walked", "walked", defArgs s_walked, defBody s_walked, defScope s_walked, [], []⟩
def d_cover_fault : He.DefD := ⟨("cover_fault", none), "cover_fault", "cover_fault", defArgs s_cover_fault, defBody s_cover_fault, defScope s_cover_fault, [], []⟩
def d_is_cover : He.DefD := ⟨("is_cover", none), "is_cover", "is_cover", defArgs s_is_cover, defBody s_is_cover, defScope s_is_cover, [], []⟩
def d_L_hand : He.DefD := ⟨("_law_hand", none), "_law_hand", "_law_hand", defArgs s_L_hand, defBody s_L_hand, defScope s_L_hand, [], []⟩
def d_L_draw : He.DefD := ⟨("_law_draw", none), "_law_draw", "_law_draw", defArgs s_L_draw, defBody s_L_draw, defScope s_L_draw, [], []⟩
def d_L_any : He.DefD := ⟨("_law_any", none), "_law_any", "_law_any", defArgs s_L_any, defBody s_L_any, defScope s_L_any, [], []⟩
def d_L_var : He.DefD := ⟨("_law_var", none), "_law_var", "_law_var", defArgs s_L_var, defBody s_L_var, defScope s_L_var, [], []⟩
def d_L_plus : He.DefD := ⟨("_law_plus", none), "_law_plus", "_law_plus", defArgs s_L_plus, defBody s_L_plus, defScope s_L_plus, [], []⟩
def d_L_mark : He.DefD := ⟨("_law_mark", none), "_law_mark", "_law_mark", defArgs s_L_mark, defBody s_L_mark, defScope s_L_mark, [], []⟩
def d_L_marks : He.DefD := ⟨("_law_marks", none), "_law_marks", "_law_marks", defArgs s_L_marks, defBody s_L_marks, defScope s_L_marks, [], []⟩
def d_L_is_marked : He.DefD := ⟨("_law_is_marked", none), "_law_is_marked", "_law_is_marked", defArgs s_L_is_marked, defBody s_L_is_marked, defScope s_L_is_marked, [], []⟩
def d_L_small : He.DefD := ⟨("_law_small", none), "_law_small", "_law_small", defArgs s_L_small, defBody s_L_small, defScope s_L_small, [], []⟩
def d_L_is_int : He.DefD := ⟨("_law_is_int", none), "_law_is_int", "_law_is_int", defArgs s_L_is_int, defBody s_L_is_int, defScope s_L_is_int, [], []⟩
def d_L_is_in : He.DefD := ⟨("_law_is_in", none), "_law_is_in", "_law_is_in", defArgs s_L_is_in, defBody s_L_is_in, defScope s_L_is_in, [], []⟩
def d_L_deep : He.DefD := ⟨("_law_deep", none), "_law_deep", "_law_deep", defArgs s_L_deep, defBody s_L_deep, defScope s_L_deep, [], []⟩
def d_L_packed : He.DefD := ⟨("_law_packed", none), "_law_packed", "_law_packed", defArgs s_L_packed, defBody s_L_packed, defScope s_L_packed, [], []⟩
def d_L_unpacked : He.DefD := ⟨("_law_unpacked", none), "_law_unpacked", "_law_unpacked", defArgs s_L_unpacked, defBody s_L_unpacked, defScope s_L_unpacked, [], []⟩
def d_L_wrong : He.DefD := ⟨("_law_wrong", none), "_law_wrong", "_law_wrong", defArgs s_L_wrong, defBody s_L_wrong, defScope s_L_wrong, [], []⟩
def d_L_made : He.DefD := ⟨("_law_made", none), "_law_made", "_law_made", defArgs s_L_made, defBody s_L_made, defScope s_L_made, [], []⟩
def d_L_odd : He.DefD := ⟨("_law_odd", none), "_law_odd", "_law_odd", defArgs s_L_odd, defBody s_L_odd, defScope s_L_odd, [], []⟩
def d_L_bent_rows : He.DefD := ⟨("_law_bent_rows", none), "_law_bent_rows", "_law_bent_rows", defArgs s_L_bent_rows, defBody s_L_bent_rows, defScope s_L_bent_rows, [], []⟩
def d_L_flag : He.DefD := ⟨("_law_flag", none), "_law_flag", "_law_flag", defArgs s_L_flag, defBody s_L_flag, defScope s_L_flag, [], []⟩
def d_L_bent_parts : He.DefD := ⟨("_law_bent_parts", none), "_law_bent_parts", "_law_bent_parts", defArgs s_L_bent_parts, defBody s_L_bent_parts, defScope s_L_bent_parts, [], []⟩
def d_L_is_odd_told : He.DefD := ⟨("_law_is_odd_told", none), "_law_is_odd_told", "_law_is_odd_told", defArgs s_L_is_odd_told, defBody s_L_is_odd_told, defScope s_L_is_odd_told, [], []⟩
def d_law : He.DefD := ⟨("law", none), "law", "law", defArgs s_law, defBody s_law, defScope s_law, [], []⟩
def fn0 : List He.DefD := [d_is_integer, d_is_within, d_divisor_of, d_is_fraction, d_is_term, d_Poly_init, d_Poly_eq, d_is_in, d_is_poly_in, d_check_polys, d_System_init, d_System_eq, d_is_point, d_is_root, d_states_behind, d_walked, d_cover_fault, d_is_cover, d_L_hand, d_L_draw, d_L_any, d_L_var, d_L_plus, d_L_mark]
def fn1 : List He.DefD := [d_L_marks, d_L_is_marked, d_L_small, d_L_is_int, d_L_is_in, d_L_deep, d_L_packed, d_L_unpacked, d_L_wrong, d_L_made, d_L_odd, d_L_bent_rows, d_L_flag, d_L_bent_parts, d_L_is_odd_told, d_law]
def fn : List He.DefD := fn0 ++ fn1
def fa0 : List He.Fa := [.free "len", .free "isinstance", .free "int", .free "abs", .free "range", .free "sorted", .free "tuple", .free "list", .free "dict", .free "max", .free "sum", .free "any", .free "all", .free "enumerate", .free "zip", .free "bool", .free "str", .free "ValueError", .free "super", .glo "is_integer", .glo "is_within", .glo "divisor_of", .glo "fraction", .glo "is_fraction"]
def fa1 : List He.Fa := [.glo "added", .glo "multiplied", .glo "raised", .glo "is_term", .glo "poly_from", .glo "constant", .glo "sum_with", .glo "plus", .glo "times", .glo "power_of", .glo "top", .glo "degree_by", .glo "without", .glo "counts_by", .glo "lead_by", .glo "slope_by", .glo "worth_at", .glo "is_in", .glo "is_poly_in", .glo "check_polys", .glo "is_point", .glo "whole_point", .glo "is_root_of", .glo "is_root"]
def fa2 : List He.Fa := [.glo "multiple_of", .glo "product_of_powers", .glo "sum_of_products", .glo "are_polys", .glo "is_chain", .glo "is_free", .glo "is_right_paper", .glo "is_early_paper", .glo "lead_and_slope", .glo "are_powers", .glo "fits_by_degrees", .glo "is_told", .glo "chain_in", .glo "are_papers", .glo "is_leaf", .glo "dropped", .glo "states_behind", .glo "walked", .glo "cover_fault", .glo "is_cover", .glo "_law_hand", .glo "_law_draw", .glo "_law_any", .glo "_law_var"]
def fa3 : List He.Fa := [.glo "_law_plus", .glo "_law_mark", .glo "_law_marks", .glo "_law_is_marked", .glo "_law_small", .glo "_law_is_int", .glo "_law_is_in", .glo "_law_deep", .glo "_law_packed", .glo "_law_unpacked", .glo "_law_wrong", .glo "_law_made", .glo "_law_odd", .glo "_law_bent_rows", .glo "_law_flag", .glo "_law_bent_parts", .glo "_law_is_odd_told", .glo "law", .int "UNKNOWNS" 4, .glo "ZERO", .glo "ONE", .int "MOST_TERMS" 300, .int "MOST_POWER" 60, .glo "NO_POWERS"]
def fa4 : List He.Fa := [.int "MOST_UNKNOWNS" 3, .int "MOST_POLYS" 6, .int "MOST_POWERS" 1000, .glo "SIZES", .glo "BadPoly", .glo "BadSystem", .glo "RootError", .glo "Poly", .mkr "Poly", .cls "Poly", .glo "RawPoly", .mkr "RawPoly", .cls "RawPoly", .glo "System", .mkr "System", .cls "System", .noat "Poly" "terms", .noat "System" "many", .noat "System" "equations", .noat "System" "barred"]
def fa : List He.Fa := fa0 ++ fa1 ++ fa2 ++ fa3 ++ fa4
def names0 : List PySem.Str := ["RootError", "BadPoly", "BadSystem", "is_integer", "is_within", "divisor_of", "fraction", "is_fraction", "added", "multiplied", "raised", "is_term", "Poly", "RawPoly", "poly_from", "constant", "sum_with", "plus", "times", "power_of", "top", "degree_by", "without", "counts_by"]
def names1 : List PySem.Str := ["lead_by", "slope_by", "worth_at", "is_in", "is_poly_in", "check_polys", "System", "is_point", "whole_point", "is_root_of", "is_root", "multiple_of", "product_of_powers", "sum_of_products", "are_polys", "is_chain", "is_free", "is_right_paper", "is_early_paper", "lead_and_slope", "are_powers", "fits_by_degrees", "is_told", "chain_in"]
def names2 : List PySem.Str := ["are_papers", "is_leaf", "dropped", "states_behind", "walked", "cover_fault", "is_cover", "_law_hand", "_law_draw", "_law_any", "_law_var", "_law_plus", "_law_mark", "_law_marks", "_law_is_marked", "_law_small", "_law_is_int", "_law_is_in", "_law_deep", "_law_packed", "_law_unpacked", "_law_wrong", "_law_made", "_law_odd"]
def names3 : List PySem.Str := ["_law_bent_rows", "_law_flag", "_law_bent_parts", "_law_is_odd_told", "UNKNOWNS", "ZERO", "ONE", "MOST_TERMS", "MOST_POWER", "NO_POWERS", "MOST_UNKNOWNS", "MOST_POLYS", "MOST_POWERS", "SIZES"]
def names : List PySem.Str := names0 ++ names1 ++ names2 ++ names3
def polyB (K : PySem.W.Frag) (C : Addr) : Bool := He.eqO (PySem.W.findIn K (.ref C) "__class__") (some (some (.builtin "object.__class__"))) && (He.eqO (PySem.W.specialIn K (.builtin "object.__class__") "__get__") (some (some (.builtin "getset_descriptor.__get__"))) &&
  (decide (PySem.W.takesIn K (.builtin "object.__class__") = some true) && (decide (PySem.W.mroIn K C (.type "object") = some true) && (decide (PySem.W.kitOne K (.ref C) (.ref (CP K)) = some true) &&
  (He.eqO (PySem.W.findIn K (.ref C) "__eq__") (some (some (.ref (He.ma K (CP K) "__eq__")))) && PySem.W.isFn K (.ref (He.ma K (CP K) "__eq__")))))))
theorem polyB_ok {K : PySem.W.Frag} {C : Addr} (cl : Cls K C) (na : NoAttr K C fT) (h : polyB K C = true) : PolyC K C := by
  obtain ⟨h1, h⟩ := He.ba h
  obtain ⟨h2, h⟩ := He.ba h
  obtain ⟨h3, h⟩ := He.ba h
  obtain ⟨h4, h⟩ := He.ba h
  obtain ⟨h5, h⟩ := He.ba h
  obtain ⟨h6, h7⟩ := He.ba h
  exact ⟨cl, na, He.eqO_ok h1, He.eqO_ok h2, of_decide_eq_true h3, of_decide_eq_true h4, of_decide_eq_true h5, He.eqO_ok h6, h7⟩
def mainF : Str := PySem.Challenge.pw_boxedroots_k09_systems_refused.main.file
abbrev s_BadPoly_init : Stmt := inClass (top 2) 0
def v_BadPoly : FnC := Option.some ("__init__", "BadPoly.__init__", defArgs s_BadPoly_init, FuncBody.stmts (defBody s_BadPoly_init), defScope s_BadPoly_init, mainGlobals, ["__class__"], Value.none, builtinsNs)
abbrev s_BadSystem_init : Stmt := inClass (top 3) 0
def v_BadSystem : FnC := Option.some ("__init__", "BadSystem.__init__", defArgs s_BadSystem_init, FuncBody.stmts (defBody s_BadSystem_init), defScope s_BadSystem_init, mainGlobals, ["__class__"], Value.none, builtinsNs)
def ownN : List Str := ["BadPoly", "BadSystem"]
def ownV : List FnC := [v_BadPoly, v_BadSystem]
def obsX (K : PySem.W.Frag) : List FnC := ownN.map (fnC K)
def tabX (K : PySem.W.Frag) : AlDc := [He.dicW K (He.ga K "SIZES")]
def tabV (w : World) : AlDc := [some (He.keysIn w.params ["part", "add", "drop", "none", "chain"])]
def adr0 : List Addr := [3, 6, 4, 24, 46, 67, 76, 83, 84, 85, 92, 99, 106, 113, 120, 127, 128, 133, 157, 178, 185, 192, 197, 204, 211, 218, 223, 228, 235, 240, 247, 254, 261, 266, 273, 280, 304, 313, 320, 325]
def adr1 : List Addr := [332, 339, 346, 353, 358, 363, 368, 375, 380, 387, 388, 393, 398, 403, 408, 413, 420, 427, 434, 441, 448, 455, 460, 467, 474, 479, 484, 491, 496, 503, 508, 515, 520, 527, 532, 537, 544, 551, 558, 565]
def adr2 : List Addr := [572, 579, 586, 591, 0, 23, 45, 66, 75, 82, 91, 98, 105, 112, 119, 126, 132, 156, 177, 184, 191, 196, 203, 210, 217, 222, 227, 234, 239, 246, 253, 260, 265, 272, 279, 303, 312, 319, 324, 331]
def adr3 : List Addr := [338, 345, 352, 357, 362, 367, 374, 379, 386, 392, 397, 402, 407, 412, 419, 426, 433, 440, 447, 454, 459, 466, 473, 478, 483, 490, 495, 502, 507, 514, 519, 526, 531, 536, 543, 550, 557, 564, 571, 578]
def adr4 : List Addr := [585, 590, 25, 43, 64, 71, 74, 78, 81, 87, 90, 94, 97, 101, 104, 108, 111, 115, 118, 122, 125, 130, 131, 147, 154, 158, 159, 175, 182, 183, 187, 190, 194, 195, 199, 202, 206, 209, 213, 216]
def adr5 : List Addr := [220, 221, 225, 226, 230, 233, 237, 238, 242, 245, 249, 252, 256, 259, 263, 264, 268, 271, 275, 278, 294, 301, 305, 306, 310, 311, 315, 318, 322, 323, 327, 330, 334, 337, 341, 344, 348, 351, 355, 356]
def adr6 : List Addr := [360, 361, 365, 366, 370, 373, 377, 378, 382, 385, 390, 391, 395, 396, 400, 401, 405, 406, 410, 411, 415, 418, 422, 425, 429, 432, 436, 439, 443, 446, 450, 453, 457, 458, 462, 465, 469, 472, 476, 477]
def adr7 : List Addr := [481, 482, 486, 489, 493, 494, 498, 501, 505, 506, 510, 513, 517, 518, 522, 525, 529, 530, 534, 535, 539, 542, 546, 549, 553, 556, 560, 563, 567, 570, 574, 577, 581, 584, 588, 589, 42, 31, 63, 52]
def adr8 : List Addr := [146, 153, 174, 293, 300, 38, 41, 59, 62, 142, 145, 149, 152, 170, 173, 289, 292, 296, 299, 2, 1]
def adr : List Addr := adr0 ++ adr1 ++ adr2 ++ adr3 ++ adr4 ++ adr5 ++ adr6 ++ adr7 ++ adr8
/-- the facts beyond the library's -/
def exB (K : PySem.W.Frag) : Bool := He.tupB K "NO_POWERS" [.int 0, .int 0, .int 0, .int 0] && (polyB K (He.ga K "Poly") && (noPoB K && (decide (PySem.W.kitOne K (.ref (CP K)) (.type "tuple") = some false) && (syB K && (erB K && (szB K && (oinB K mainF "BadPoly" "index" && (oinB K mainF "BadSystem" "part"))))))))
abbrev AlM : Type := He.AlD × (Bool × (List FnC × AlDc))
def hk (n : Nat) : PySem.W.Hook where
  α := AlM
  obs := fun s => (He.obsD fa fn (He.frG s.heap.get? adr), (exB (He.frG s.heap.get? adr), (obsX (He.frG s.heap.get? adr), tabX (He.frG s.heap.get? adr))))
  val := fun w => (He.valD fn, (true, (ownV, tabV w)))
  says := fun w h => ∃ K : PySem.W.Frag, K.In h ∧ He.SaysD fa fn K ∧ exB K = true ∧ (obsX K = ownV ∧ tabX K = tabV w)
  of := fun _ _ e => ⟨_, He.frG_in, congrArg (fun z : AlM => z.1) e, congrArg (fun z : AlM => z.2.1) e, congrArg (fun z : AlM => z.2.2.1) e, congrArg (fun z : AlM => z.2.2.2) e⟩
  keeps := fun _ _ _ ⟨K, hK, c⟩ k => ⟨K, PySem.W.Frag.In.keeps hK k, c⟩
abbrev R : PySem.W.OpenRow := PySem.W.OpenLaw.row PySem.Challenge.rw_boxedroots_k09_systems_refused
def ob (s : PySem.W.SharedT) : AlM := (He.obsD fa fn (He.frG (HandSHeadRun.getT s) adr), (exB (He.frG (HandSHeadRun.getT s) adr), (obsX (He.frG (HandSHeadRun.getT s) adr), tabX (He.frG (HandSHeadRun.getT s) adr))))
theorem ob_eq (s : PySem.W.SharedT) : ob s = (hk 5).obs s.abs := by
  have e : HandSHeadRun.getT s = s.abs.heap.get? := funext (HandSHeadRun.getT_eq s)
  unfold ob
  rw [e]
  rfl
theorem map_two {α β γ : Type _} {o : Option α} {f : α → β} {g : α → γ} {a : β} {b : γ} (h : o.map f = some a) (k : o.map g = some b) : o.map (fun s => (f s, g s)) = some (a, b) := by
  cases o with
  | none => cases h
  | some x =>
    have e1 : f x = a := Option.some.inj h
    have e2 : g x = b := Option.some.inj k
    show some (f x, g x) = some (a, b)
    rw [e1, e2]
theorem map_and {α : Type _} {o : Option α} {f g : α → Bool} (h : o.map f = some true) (k : o.map g = some true) : o.map (fun s => f s && g s) = some true := by
  cases o with
  | none => cases h
  | some x =>
    have e1 : f x = true := Option.some.inj h
    have e2 : g x = true := Option.some.inj k
    show some (f x && g x) = some true
    rw [e1, e2]
    rfl
section
open HandSHeadRun PySem.W PySem.Calls
noncomputable abbrev EE (w : World) (os : OsState) := endF (stepQ (denQ tabQ) R.prog w) 8000 R.prog w os
abbrev KK (s : PySem.W.SharedT) : PySem.W.Frag := He.frG (HandSHeadRun.getT s) adr
set_option maxHeartbeats 0 in
theorem run_a (w : World) (os : OsState) : (EE w os).map (fun s => looksF R.prog (boot_heap w.params) s.abs) = some true := PySem.W.byRow2 "special-get-raises" (P := fun w => (EE w os).map (fun s => looksF R.prog (boot_heap w.params) s.abs) = some true) (fun w => by kernel_rfl) (fun w => by kernel_rfl) w
set_option maxHeartbeats 0 in
theorem run_b (w : World) (os : OsState) : (EE w os).map (fun s => seenQ (PySem.W.view R.prog [95]) names (importedModules R.prog.main.body) (fun s => xlAt (PySem.W.view R.prog [95]) [] s && recOk R.toRowW.records s) s.abs) = some (openGood (PySem.W.view R.prog [95]) names) := PySem.W.byRow2 "special-get-raises" (P := fun w => (EE w os).map (fun s => seenQ (PySem.W.view R.prog [95]) names (importedModules R.prog.main.body) (fun s => xlAt (PySem.W.view R.prog [95]) [] s && recOk R.toRowW.records s) s.abs) = some (openGood (PySem.W.view R.prog [95]) names)) (fun w => by kernel_rfl) (fun w => by kernel_rfl) w
set_option maxHeartbeats 0 in
theorem run_c (w : World) (os : OsState) : (EE w os).map (fun s => fa.all fun f => f.ok (KK s)) = some true := PySem.W.byRow2 "special-get-raises" (P := fun w => (EE w os).map (fun s => fa.all fun f => f.ok (KK s)) = some true) (fun w => by kernel_rfl) (fun w => by kernel_rfl) w
set_option maxHeartbeats 0 in
theorem run_d (w : World) (os : OsState) : (EE w os).map (fun s => fn.all fun d => d.ok (KK s)) = some true := PySem.W.byRow2 "special-get-raises" (P := fun w => (EE w os).map (fun s => fn.all fun d => d.ok (KK s)) = some true) (fun w => by kernel_rfl) (fun w => by kernel_rfl) w
set_option maxHeartbeats 0 in
theorem run_e (w : World) (os : OsState) : (EE w os).map (fun s => fn.map fun d => He.fnW (KK s) d.at_) = some (fn.map He.DefD.val) := PySem.W.byRow2 "special-get-raises" (P := fun w => (EE w os).map (fun s => fn.map fun d => He.fnW (KK s) d.at_) = some (fn.map He.DefD.val)) (fun w => by kernel_rfl) (fun w => by kernel_rfl) w
set_option maxHeartbeats 0 in
theorem run_f (w : World) (os : OsState) : (EE w os).map (fun s => exB (KK s)) = some true := PySem.W.byRow2 "special-get-raises" (P := fun w => (EE w os).map (fun s => exB (KK s)) = some true) (fun w => by kernel_rfl) (fun w => by kernel_rfl) w
set_option maxHeartbeats 0 in
theorem run_g (w : World) (os : OsState) : (EE w os).map (fun s => obsX (KK s)) = some ownV := PySem.W.byRow2 "special-get-raises" (P := fun w => (EE w os).map (fun s => obsX (KK s)) = some ownV) (fun w => by kernel_rfl) (fun w => by kernel_rfl) w
set_option maxHeartbeats 0 in
theorem run_h (w : World) (os : OsState) : (EE w os).map (fun s => tabX (KK s)) = some (tabV w) := PySem.W.byRow2 "special-get-raises" (P := fun w => (EE w os).map (fun s => tabX (KK s)) = some (tabV w)) (fun w => by kernel_rfl) (fun w => by kernel_rfl) w
theorem run (w : World) : HandSHeadRun.RunEq R (PySem.W.view R.prog [95]) (hk 5) ob 8000 names w := fun os =>
  map_two (run_a w os) (map_two (run_b w os) (map_two (map_two (map_and (run_c w os) (run_d w os)) (run_e w os)) (map_two (run_f w os) (map_two (run_g w os) (run_h w os)))))
end
set_option maxHeartbeats 0 in
theorem facts {P : Program} {w : World} {K : PySem.W.Frag} {h : Heap} {mg : Str → Option Value} {f : Addr} (hmf : P.main.file = mainF) (htop : (P.main.scope.names.lookup ("super" : Str)).isSome = false) (X : K.In h) (G : h.Ns mainGlobals mg) (hfa : mg ("law" : Str) = some (.ref f)) (c : He.SaysD fa fn K) (cx : exB K = true) (co : obsX K = ownV) (ctb : tabX K = tabV w) :
    ∃ fd : FuncData, (∀ (s : Shared) (v : Value), BindsTo s fd ⟨[v], []⟩ [("_law_script", v)]) ∧ ∀ base : Heap, K.In base → base.Ns mainGlobals mg → FnOk P w K mg base CX0 38 f fd ["_law_script"] (spOf (S_law P w K)) := by
  obtain ⟨fd_is_integer, F_is_integer⟩ := c.def_ 0 (d := d_is_integer) rfl
  obtain ⟨fd_is_within, F_is_within⟩ := c.def_ 1 (d := d_is_within) rfl
  obtain ⟨fd_divisor_of, F_divisor_of⟩ := c.def_ 2 (d := d_divisor_of) rfl
  obtain ⟨fd_is_fraction, F_is_fraction⟩ := c.def_ 3 (d := d_is_fraction) rfl
  obtain ⟨fd_is_term, F_is_term⟩ := c.def_ 4 (d := d_is_term) rfl
  obtain ⟨fd_Poly_init, F_Poly_init⟩ := c.def_ 5 (d := d_Poly_init) rfl
  obtain ⟨fd_Poly_eq, F_Poly_eq⟩ := c.def_ 6 (d := d_Poly_eq) rfl
  obtain ⟨fd_is_in, F_is_in⟩ := c.def_ 7 (d := d_is_in) rfl
  obtain ⟨fd_is_poly_in, F_is_poly_in⟩ := c.def_ 8 (d := d_is_poly_in) rfl
  obtain ⟨fd_check_polys, F_check_polys⟩ := c.def_ 9 (d := d_check_polys) rfl
  obtain ⟨fd_System_init, F_System_init⟩ := c.def_ 10 (d := d_System_init) rfl
  obtain ⟨fd_System_eq, F_System_eq⟩ := c.def_ 11 (d := d_System_eq) rfl
  obtain ⟨fd_is_point, F_is_point⟩ := c.def_ 12 (d := d_is_point) rfl
  obtain ⟨fd_is_root, F_is_root⟩ := c.def_ 13 (d := d_is_root) rfl
  obtain ⟨fd_states_behind, F_states_behind⟩ := c.def_ 14 (d := d_states_behind) rfl
  obtain ⟨fd_walked, F_walked⟩ := c.def_ 15 (d := d_walked) rfl
  obtain ⟨fd_cover_fault, F_cover_fault⟩ := c.def_ 16 (d := d_cover_fault) rfl
  obtain ⟨fd_is_cover, F_is_cover⟩ := c.def_ 17 (d := d_is_cover) rfl
  obtain ⟨fd_L_hand, F_L_hand⟩ := c.def_ 18 (d := d_L_hand) rfl
  obtain ⟨fd_L_draw, F_L_draw⟩ := c.def_ 19 (d := d_L_draw) rfl
  obtain ⟨fd_L_any, F_L_any⟩ := c.def_ 20 (d := d_L_any) rfl
  obtain ⟨fd_L_var, F_L_var⟩ := c.def_ 21 (d := d_L_var) rfl
  obtain ⟨fd_L_plus, F_L_plus⟩ := c.def_ 22 (d := d_L_plus) rfl
  obtain ⟨fd_L_mark, F_L_mark⟩ := c.def_ 23 (d := d_L_mark) rfl
  obtain ⟨fd_L_marks, F_L_marks⟩ := c.def_ 24 (d := d_L_marks) rfl
  obtain ⟨fd_L_is_marked, F_L_is_marked⟩ := c.def_ 25 (d := d_L_is_marked) rfl
  obtain ⟨fd_L_small, F_L_small⟩ := c.def_ 26 (d := d_L_small) rfl
  obtain ⟨fd_L_is_int, F_L_is_int⟩ := c.def_ 27 (d := d_L_is_int) rfl
  obtain ⟨fd_L_is_in, F_L_is_in⟩ := c.def_ 28 (d := d_L_is_in) rfl
  obtain ⟨fd_L_deep, F_L_deep⟩ := c.def_ 29 (d := d_L_deep) rfl
  obtain ⟨fd_L_packed, F_L_packed⟩ := c.def_ 30 (d := d_L_packed) rfl
  obtain ⟨fd_L_unpacked, F_L_unpacked⟩ := c.def_ 31 (d := d_L_unpacked) rfl
  obtain ⟨fd_L_wrong, F_L_wrong⟩ := c.def_ 32 (d := d_L_wrong) rfl
  obtain ⟨fd_L_made, F_L_made⟩ := c.def_ 33 (d := d_L_made) rfl
  obtain ⟨fd_L_odd, F_L_odd⟩ := c.def_ 34 (d := d_L_odd) rfl
  obtain ⟨fd_L_bent_rows, F_L_bent_rows⟩ := c.def_ 35 (d := d_L_bent_rows) rfl
  obtain ⟨fd_L_flag, F_L_flag⟩ := c.def_ 36 (d := d_L_flag) rfl
  obtain ⟨fd_L_bent_parts, F_L_bent_parts⟩ := c.def_ 37 (d := d_L_bent_parts) rfl
  obtain ⟨fd_L_is_odd_told, F_L_is_odd_told⟩ := c.def_ 38 (d := d_L_is_odd_told) rfl
  obtain ⟨fd_law, F_law⟩ := c.def_ 39 (d := d_law) rfl
  have T : Txt K mg := {
    b_len := He.free_ok X G (c.fact 0 (f := .free "len") rfl)
    b_isinstance := He.free_ok X G (c.fact 1 (f := .free "isinstance") rfl)
    b_int := He.free_ok X G (c.fact 2 (f := .free "int") rfl)
    b_abs := He.free_ok X G (c.fact 3 (f := .free "abs") rfl)
    b_range := He.free_ok X G (c.fact 4 (f := .free "range") rfl)
    b_sorted := He.free_ok X G (c.fact 5 (f := .free "sorted") rfl)
    b_tuple := He.free_ok X G (c.fact 6 (f := .free "tuple") rfl)
    b_list := He.free_ok X G (c.fact 7 (f := .free "list") rfl)
    b_dict := He.free_ok X G (c.fact 8 (f := .free "dict") rfl)
    b_max := He.free_ok X G (c.fact 9 (f := .free "max") rfl)
    b_sum := He.free_ok X G (c.fact 10 (f := .free "sum") rfl)
    b_any := He.free_ok X G (c.fact 11 (f := .free "any") rfl)
    b_all := He.free_ok X G (c.fact 12 (f := .free "all") rfl)
    b_enumerate := He.free_ok X G (c.fact 13 (f := .free "enumerate") rfl)
    b_zip := He.free_ok X G (c.fact 14 (f := .free "zip") rfl)
    b_bool := He.free_ok X G (c.fact 15 (f := .free "bool") rfl)
    b_str := He.free_ok X G (c.fact 16 (f := .free "str") rfl)
    b_ValueError := He.free_ok X G (c.fact 17 (f := .free "ValueError") rfl)
    b_super := He.free_ok X G (c.fact 18 (f := .free "super") rfl)
    g_is_integer := He.glo_ok X G (c.fact 19 (f := .glo "is_integer") rfl)
    g_is_within := He.glo_ok X G (c.fact 20 (f := .glo "is_within") rfl)
    g_divisor_of := He.glo_ok X G (c.fact 21 (f := .glo "divisor_of") rfl)
    g_fraction := He.glo_ok X G (c.fact 22 (f := .glo "fraction") rfl)
    g_is_fraction := He.glo_ok X G (c.fact 23 (f := .glo "is_fraction") rfl)
    g_added := He.glo_ok X G (c.fact 24 (f := .glo "added") rfl)
    g_multiplied := He.glo_ok X G (c.fact 25 (f := .glo "multiplied") rfl)
    g_raised := He.glo_ok X G (c.fact 26 (f := .glo "raised") rfl)
    g_is_term := He.glo_ok X G (c.fact 27 (f := .glo "is_term") rfl)
    g_poly_from := He.glo_ok X G (c.fact 28 (f := .glo "poly_from") rfl)
    g_constant := He.glo_ok X G (c.fact 29 (f := .glo "constant") rfl)
    g_sum_with := He.glo_ok X G (c.fact 30 (f := .glo "sum_with") rfl)
    g_plus := He.glo_ok X G (c.fact 31 (f := .glo "plus") rfl)
    g_times := He.glo_ok X G (c.fact 32 (f := .glo "times") rfl)
    g_power_of := He.glo_ok X G (c.fact 33 (f := .glo "power_of") rfl)
    g_top := He.glo_ok X G (c.fact 34 (f := .glo "top") rfl)
    g_degree_by := He.glo_ok X G (c.fact 35 (f := .glo "degree_by") rfl)
    g_without := He.glo_ok X G (c.fact 36 (f := .glo "without") rfl)
    g_counts_by := He.glo_ok X G (c.fact 37 (f := .glo "counts_by") rfl)
    g_lead_by := He.glo_ok X G (c.fact 38 (f := .glo "lead_by") rfl)
    g_slope_by := He.glo_ok X G (c.fact 39 (f := .glo "slope_by") rfl)
    g_worth_at := He.glo_ok X G (c.fact 40 (f := .glo "worth_at") rfl)
    g_is_in := He.glo_ok X G (c.fact 41 (f := .glo "is_in") rfl)
    g_is_poly_in := He.glo_ok X G (c.fact 42 (f := .glo "is_poly_in") rfl)
    g_check_polys := He.glo_ok X G (c.fact 43 (f := .glo "check_polys") rfl)
    g_is_point := He.glo_ok X G (c.fact 44 (f := .glo "is_point") rfl)
    g_whole_point := He.glo_ok X G (c.fact 45 (f := .glo "whole_point") rfl)
    g_is_root_of := He.glo_ok X G (c.fact 46 (f := .glo "is_root_of") rfl)
    g_is_root := He.glo_ok X G (c.fact 47 (f := .glo "is_root") rfl)
    g_multiple_of := He.glo_ok X G (c.fact 48 (f := .glo "multiple_of") rfl)
    g_product_of_powers := He.glo_ok X G (c.fact 49 (f := .glo "product_of_powers") rfl)
    g_sum_of_products := He.glo_ok X G (c.fact 50 (f := .glo "sum_of_products") rfl)
    g_are_polys := He.glo_ok X G (c.fact 51 (f := .glo "are_polys") rfl)
    g_is_chain := He.glo_ok X G (c.fact 52 (f := .glo "is_chain") rfl)
    g_is_free := He.glo_ok X G (c.fact 53 (f := .glo "is_free") rfl)
    g_is_right_paper := He.glo_ok X G (c.fact 54 (f := .glo "is_right_paper") rfl)
    g_is_early_paper := He.glo_ok X G (c.fact 55 (f := .glo "is_early_paper") rfl)
    g_lead_and_slope := He.glo_ok X G (c.fact 56 (f := .glo "lead_and_slope") rfl)
    g_are_powers := He.glo_ok X G (c.fact 57 (f := .glo "are_powers") rfl)
    g_fits_by_degrees := He.glo_ok X G (c.fact 58 (f := .glo "fits_by_degrees") rfl)
    g_is_told := He.glo_ok X G (c.fact 59 (f := .glo "is_told") rfl)
    g_chain_in := He.glo_ok X G (c.fact 60 (f := .glo "chain_in") rfl)
    g_are_papers := He.glo_ok X G (c.fact 61 (f := .glo "are_papers") rfl)
    g_is_leaf := He.glo_ok X G (c.fact 62 (f := .glo "is_leaf") rfl)
    g_dropped := He.glo_ok X G (c.fact 63 (f := .glo "dropped") rfl)
    g_states_behind := He.glo_ok X G (c.fact 64 (f := .glo "states_behind") rfl)
    g_walked := He.glo_ok X G (c.fact 65 (f := .glo "walked") rfl)
    g_cover_fault := He.glo_ok X G (c.fact 66 (f := .glo "cover_fault") rfl)
    g_is_cover := He.glo_ok X G (c.fact 67 (f := .glo "is_cover") rfl)
    g_L_hand := He.glo_ok X G (c.fact 68 (f := .glo "_law_hand") rfl)
    g_L_draw := He.glo_ok X G (c.fact 69 (f := .glo "_law_draw") rfl)
    g_L_any := He.glo_ok X G (c.fact 70 (f := .glo "_law_any") rfl)
    g_L_var := He.glo_ok X G (c.fact 71 (f := .glo "_law_var") rfl)
    g_L_plus := He.glo_ok X G (c.fact 72 (f := .glo "_law_plus") rfl)
    g_L_mark := He.glo_ok X G (c.fact 73 (f := .glo "_law_mark") rfl)
    g_L_marks := He.glo_ok X G (c.fact 74 (f := .glo "_law_marks") rfl)
    g_L_is_marked := He.glo_ok X G (c.fact 75 (f := .glo "_law_is_marked") rfl)
    g_L_small := He.glo_ok X G (c.fact 76 (f := .glo "_law_small") rfl)
    g_L_is_int := He.glo_ok X G (c.fact 77 (f := .glo "_law_is_int") rfl)
    g_L_is_in := He.glo_ok X G (c.fact 78 (f := .glo "_law_is_in") rfl)
    g_L_deep := He.glo_ok X G (c.fact 79 (f := .glo "_law_deep") rfl)
    g_L_packed := He.glo_ok X G (c.fact 80 (f := .glo "_law_packed") rfl)
    g_L_unpacked := He.glo_ok X G (c.fact 81 (f := .glo "_law_unpacked") rfl)
    g_L_wrong := He.glo_ok X G (c.fact 82 (f := .glo "_law_wrong") rfl)
    g_L_made := He.glo_ok X G (c.fact 83 (f := .glo "_law_made") rfl)
    g_L_odd := He.glo_ok X G (c.fact 84 (f := .glo "_law_odd") rfl)
    g_L_bent_rows := He.glo_ok X G (c.fact 85 (f := .glo "_law_bent_rows") rfl)
    g_L_flag := He.glo_ok X G (c.fact 86 (f := .glo "_law_flag") rfl)
    g_L_bent_parts := He.glo_ok X G (c.fact 87 (f := .glo "_law_bent_parts") rfl)
    g_L_is_odd_told := He.glo_ok X G (c.fact 88 (f := .glo "_law_is_odd_told") rfl)
    g_law := He.glo_ok X G (c.fact 89 (f := .glo "law") rfl)
    c_UNKNOWNS := He.int_ok X G (c.fact 90 (f := .int "UNKNOWNS" 4) rfl)
    c_ZERO := He.glo_ok X G (c.fact 91 (f := .glo "ZERO") rfl)
    c_ONE := He.glo_ok X G (c.fact 92 (f := .glo "ONE") rfl)
    c_MOST_TERMS := He.int_ok X G (c.fact 93 (f := .int "MOST_TERMS" 300) rfl)
    c_MOST_POWER := He.int_ok X G (c.fact 94 (f := .int "MOST_POWER" 60) rfl)
    c_NO_POWERS := He.glo_ok X G (c.fact 95 (f := .glo "NO_POWERS") rfl)
    c_MOST_UNKNOWNS := He.int_ok X G (c.fact 96 (f := .int "MOST_UNKNOWNS" 3) rfl)
    c_MOST_POLYS := He.int_ok X G (c.fact 97 (f := .int "MOST_POLYS" 6) rfl)
    c_MOST_POWERS := He.int_ok X G (c.fact 98 (f := .int "MOST_POWERS" 1000) rfl)
    c_SIZES := He.glo_ok X G (c.fact 99 (f := .glo "SIZES") rfl)
    c_BadPoly := He.glo_ok X G (c.fact 100 (f := .glo "BadPoly") rfl)
    c_BadSystem := He.glo_ok X G (c.fact 101 (f := .glo "BadSystem") rfl)
    c_RootError := He.glo_ok X G (c.fact 102 (f := .glo "RootError") rfl)
    c_Poly := He.glo_ok X G (c.fact 103 (f := .glo "Poly") rfl)
    m_Poly := He.mkr_ok (c.fact 104 (f := .mkr "Poly") rfl)
    cl_Poly := He.cls_ok (c.fact 105 (f := .cls "Poly") rfl)
    c_RawPoly := He.glo_ok X G (c.fact 106 (f := .glo "RawPoly") rfl)
    m_RawPoly := He.mkr_ok (c.fact 107 (f := .mkr "RawPoly") rfl)
    cl_RawPoly := He.cls_ok (c.fact 108 (f := .cls "RawPoly") rfl)
    c_System := He.glo_ok X G (c.fact 109 (f := .glo "System") rfl)
    m_System := He.mkr_ok (c.fact 110 (f := .mkr "System") rfl)
    cl_System := He.cls_ok (c.fact 111 (f := .cls "System") rfl) }
  have na_Poly : NoAttr K (He.ga K "Poly") fT := He.noat_ok (c.fact 112 (f := .noat "Poly" "terms") rfl)
  have na_System_many : NoAttr K (He.ga K "System") "many" := He.noat_ok (c.fact 113 (f := .noat "System" "many") rfl)
  have na_System_equations : NoAttr K (He.ga K "System") "equations" := He.noat_ok (c.fact 114 (f := .noat "System" "equations") rfl)
  have na_System_barred : NoAttr K (He.ga K "System") "barred" := He.noat_ok (c.fact 115 (f := .noat "System" "barred") rfl)
  obtain ⟨x0, cx⟩ := He.ba cx
  obtain ⟨x1, cx⟩ := He.ba cx
  obtain ⟨x2, cx⟩ := He.ba cx
  obtain ⟨x3, cx⟩ := He.ba cx
  obtain ⟨x4, cx⟩ := He.ba cx
  obtain ⟨x5, cx⟩ := He.ba cx
  obtain ⟨x6, cx⟩ := He.ba cx
  obtain ⟨x7, cx⟩ := He.ba cx
  have x8 := cx
  have np : ∀ H, SqT K H (He.ga K "NO_POWERS") ([0, 0, 0, 0].map V.int) := fun H => He.tupB_ok x0 H
  have pc_Poly : PolyC K (He.ga K "Poly") := polyB_ok T.cl_Poly na_Poly x1
  have hPo := noPoB_ok x2
  have hCt : PySem.W.kitOne K (.ref (CP K)) (.type "tuple") = some false := of_decide_eq_true x3
  have hS := syB_ok T.cl_System na_System_many na_System_equations na_System_barred x4
  have EF := erB_ok x5
  have hZ := szB_ok x6
  have xo_BadPoly := x7
  have xo_BadSystem := x8
  obtain ⟨eD, nD, hKd⟩ : ∃ es n, KDict K w (He.ga K "SIZES") es n := He.dicW_ok (ks := ["part", "add", "drop", "none", "chain"]) (congrArg (fun l : AlDc => l.getD 0 none) ctb)
  have e := hfa.symm.trans (He.glo_ok X G (c.fact 89 (f := .glo "law") rfl))
  cases e
  have b := FunD.bindsA (ps := ["_law_script"]) F_law fun _ _ _ _ _ _ us hl => match us, hl with | [_], _ => rfl
  refine ⟨fd_law, fun s v => b s [v] rfl, fun base _ _ => ?_⟩
  obtain ⟨fI_BadPoly, fd_BadPoly, o_BadPoly⟩ := own_ok (P := P) (w := w) (base := base) (x := "BadPoly") (f := "index") hmf htop T.b_super xo_BadPoly (congrArg (fun l : List FnC => l.getD 0 Option.none) co) (NdefX.nscope_by (by decide +kernel)) rfl (by decide) (by decide) (fun _ _ _ _ _ _ _ us hl => match us, hl with | [_, _], _ => rfl) (fun _ => rfl)
  obtain ⟨fI_BadSystem, fd_BadSystem, o_BadSystem⟩ := own_ok (P := P) (w := w) (base := base) (x := "BadSystem") (f := "part") hmf htop T.b_super xo_BadSystem (congrArg (fun l : List FnC => l.getD 1 Option.none) co) (NdefX.nscope_by (by decide +kernel)) rfl (by decide) (by decide) (fun _ _ _ _ _ _ _ us hl => match us, hl with | [_, _], _ => rfl) (fun _ => rfl)
  have c_L_flag : Callee P w K mg base (He.ga K "_law_flag") fd_L_flag ["_law_flag_here", "_law_due"] 1 (spOf (S_L_flag P w K)) := ⟨F_L_flag.kp, F_L_flag.bindsN fun _ _ _ _ _ _ us hl => match us, hl with | [_, _], _ => rfl, ok_L_flag T F_L_flag  ⟩
  have c_states_behind : Callee P w K mg base (He.ga K "states_behind") fd_states_behind ["many", "state", "step"] 1 (spOf (S_states_behind P w K)) := ⟨F_states_behind.kp, F_states_behind.bindsN fun _ _ _ _ _ _ us hl => match us, hl with | [_, _, _], _ => rfl, ok_states_behind T F_states_behind  hKd hZ⟩
  have c_walked : Callee P w K mg base (He.ga K "walked") fd_walked ["system", "cover"] 2 (spOf (S_walked P w K)) := ⟨F_walked.kp, F_walked.bindsN fun _ _ _ _ _ _ us hl => match us, hl with | [_, _], _ => rfl, ok_walked T F_walked c_states_behind hS⟩
  have c_cover_fault : Callee P w K mg base (He.ga K "cover_fault") fd_cover_fault ["system", "thing"] 3 (spOf (S_cover_fault P w K)) := ⟨F_cover_fault.kp, F_cover_fault.bindsN fun _ _ _ _ _ _ us hl => match us, hl with | [_, _], _ => rfl, ok_cover_fault T F_cover_fault c_walked ⟩
  have c_is_cover : Callee P w K mg base (He.ga K "is_cover") fd_is_cover ["system", "thing"] 4 (spOf (S_is_cover P w K)) := ⟨F_is_cover.kp, F_is_cover.bindsN fun _ _ _ _ _ _ us hl => match us, hl with | [_, _], _ => rfl, ok_is_cover T F_is_cover c_cover_fault ⟩
  have c_L_draw : Callee P w K mg base (He.ga K "_law_draw") fd_L_draw ["_law_hand_here", "_law_many"] 1 (spOf (S_L_draw P w K)) := ⟨F_L_draw.kp, F_L_draw.bindsN fun _ _ _ _ _ _ us hl => match us, hl with | [_, _], _ => rfl, ok_L_draw T F_L_draw  ⟩
  have c_L_any : Callee P w K mg base (He.ga K "_law_any") fd_L_any ["_law_hand_here", "_law_things"] 2 (spOf (S_L_any P w K)) := ⟨F_L_any.kp, F_L_any.bindsN fun _ _ _ _ _ _ us hl => match us, hl with | [_, _], _ => rfl, ok_L_any T F_L_any c_L_draw ⟩
  have c_divisor_of : Callee P w K mg base (He.ga K "divisor_of") fd_divisor_of ["one", "other"] 1 (spOf (S_divisor_of P w K)) := ⟨F_divisor_of.kp, F_divisor_of.bindsN fun _ _ _ _ _ _ us hl => match us, hl with | [_, _], _ => rfl, ok_divisor_of T F_divisor_of  ⟩
  have c_is_integer : Callee P w K mg base (He.ga K "is_integer") fd_is_integer ["thing"] 1 (spOf (S_is_integer2 P w K)) := ⟨F_is_integer.kp, F_is_integer.bindsN fun _ _ _ _ _ _ us hl => match us, hl with | [_], _ => rfl, ok_is_integer T F_is_integer  ⟩
  have c_is_fraction : Callee P w K mg base (He.ga K "is_fraction") fd_is_fraction ["thing"] 2 (spOf (S_is_fraction2 P w K)) := ⟨F_is_fraction.kp, F_is_fraction.bindsN fun _ _ _ _ _ _ us hl => match us, hl with | [_], _ => rfl, ok_is_fraction T F_is_fraction c_divisor_of c_is_integer ⟩
  have c_is_point : Callee P w K mg base (He.ga K "is_point") fd_is_point ["thing", "many"] 3 (spOf (S_is_point9 P w K)) := ⟨F_is_point.kp, F_is_point.bindsN fun _ _ _ _ _ _ us hl => match us, hl with | [_, _], _ => rfl, ok_is_point T F_is_point c_is_fraction ⟩
  have c_is_root : Callee P w K mg base (He.ga K "is_root") fd_is_root ["system", "thing"] 4 (spOf (S_is_root P w K)) := ⟨F_is_root.kp, F_is_root.bindsN fun _ _ _ _ _ _ us hl => match us, hl with | [_, _], _ => rfl, ok_is_root T F_is_root c_is_point hS⟩
  have c_L_deep : Callee P w K mg base (He.ga K "_law_deep") fd_L_deep ["_law_hand_here"] 2 (spOf (S_L_deep9 P w K)) := ⟨F_L_deep.kp, F_L_deep.bindsN fun _ _ _ _ _ _ us hl => match us, hl with | [_], _ => rfl, ok_L_deep T F_L_deep c_L_draw ⟩
  have c_L_is_odd_told : Callee P w K mg base (He.ga K "_law_is_odd_told") fd_L_is_odd_told ["_law_hand_here", "_law_system", "_law_many"] 5 (spOf (S_L_is_odd_told P w K)) := ⟨F_L_is_odd_told.kp, F_L_is_odd_told.bindsN fun _ _ _ _ _ _ us hl => match us, hl with | [_, _, _], _ => rfl, ok_L_is_odd_told T F_L_is_odd_told c_L_flag c_is_cover c_cover_fault c_L_any c_L_draw c_is_root c_L_deep hS hS.tk⟩
  have c_is_in : Callee P w K mg base (He.ga K "is_in") fd_is_in ["poly", "many"] 1 (spOf (S_is_in9 P w K)) := ⟨F_is_in.kp, F_is_in.bindsN fun _ _ _ _ _ _ us hl => match us, hl with | [_, _], _ => rfl, ok_is_in T F_is_in  np⟩
  have c_is_poly_in : Callee P w K mg base (He.ga K "is_poly_in") fd_is_poly_in ["thing", "many"] 2 (spOf (S_is_poly_in9 P w K)) := ⟨F_is_poly_in.kp, F_is_poly_in.bindsN fun _ _ _ _ _ _ us hl => match us, hl with | [_, _], _ => rfl, ok_is_poly_in T F_is_poly_in c_is_in pc_Poly hPo⟩
  have c_check_polys : CalleeX P w K mg base (He.ga K "check_polys") fd_check_polys ["thing", "many", "one", "all_of_them"] 3 (spY (S_check_polys9 P w K)) := ⟨F_check_polys.kp, F_check_polys.bindsN fun _ _ _ _ _ _ us hl => match us, hl with | [_, _, _, _], _ => rfl, ok_check_polys T F_check_polys c_is_poly_in o_BadSystem pc_Poly hCt⟩
  have c_is_within : Callee P w K mg base (He.ga K "is_within") fd_is_within ["thing", "least", "most"] 2 (spOf (S_is_within2 P w K)) := ⟨F_is_within.kp, F_is_within.bindsN fun _ _ _ _ _ _ us hl => match us, hl with | [_, _, _], _ => rfl, ok_is_within T F_is_within c_is_integer ⟩
  have c_System_init : CalleeX P w K mg base (He.ma K (He.ga K "System") "__init__") fd_System_init ["self", "many", "equations", "barred"] 4 (spMkY (He.ga K "System") (S_System_initY P w K)) := ⟨F_System_init.kp, F_System_init.bindsN fun _ _ _ _ _ _ us hl => match us, hl with | [_, _, _, _], _ => rfl, ok_System_init T F_System_init c_check_polys c_is_within o_BadSystem T.cl_System na_System_many na_System_equations na_System_barred⟩
  have c_L_is_marked : Callee P w K mg base (He.ga K "_law_is_marked") fd_L_is_marked ["_law_thing"] 1 (spOf (S_L_is_marked9 P w K)) := ⟨F_L_is_marked.kp, F_L_is_marked.bindsN fun _ _ _ _ _ _ us hl => match us, hl with | [_], _ => rfl, ok_L_is_marked T F_L_is_marked  ⟩
  have c_is_term : Callee P w K mg base (He.ga K "is_term") fd_is_term ["thing"] 3 (spOf (S_is_term2 P w K)) := ⟨F_is_term.kp, F_is_term.bindsN fun _ _ _ _ _ _ us hl => match us, hl with | [_], _ => rfl, ok_is_term T F_is_term c_is_within c_is_integer ⟩
  have c_Poly_init : CalleeX P w K mg base (He.ma K (He.ga K "Poly") "__init__") fd_Poly_init ["self", "terms"] 4 (spMkX (He.ga K "Poly") (S_Poly_initX P w K)) := ⟨F_Poly_init.kp, F_Poly_init.bindsN fun _ _ _ _ _ _ us hl => match us, hl with | [_, _], _ => rfl, ok_Poly_init T F_Poly_init c_is_term o_BadPoly T.cl_Poly na_Poly⟩
  have c_L_packed : Callee P w K mg base (He.ga K "_law_packed") fd_L_packed ["_law_thing"] 36 (spOf (S_L_packed9 30 P w K)) := ⟨F_L_packed.kp, F_L_packed.bindsN fun _ _ _ _ _ _ us hl => match us, hl with | [_], _ => rfl, ok_L_packed T F_L_packed c_L_is_marked c_Poly_init ⟩
  have c_L_mark : Callee P w K mg base (He.ga K "_law_mark") fd_L_mark ["_law_parts"] 1 (spOf (S_L_mark P w K)) := ⟨F_L_mark.kp, F_L_mark.bindsN fun _ _ _ _ _ _ us hl => match us, hl with | [_], _ => rfl, ok_L_mark T F_L_mark  ⟩
  have c_L_unpacked : Callee P w K mg base (He.ga K "_law_unpacked") fd_L_unpacked ["_law_thing"] 3 (spOf (S_L_unpacked9 P w K)) := ⟨F_L_unpacked.kp, F_L_unpacked.bindsN fun _ _ _ _ _ _ us hl => match us, hl with | [_], _ => rfl, ok_L_unpacked T F_L_unpacked c_L_mark pc_Poly hPo⟩
  have c_L_made : Callee P w K mg base (He.ga K "_law_made") fd_L_made ["_law_many", "_law_equations", "_law_barred"] 37 (spOf (S_L_made9 P w K)) := ⟨F_L_made.kp, F_L_made.bindsN fun _ _ _ _ _ _ us hl => match us, hl with | [_, _, _], _ => rfl, ok_L_made T F_L_made c_L_unpacked c_System_init c_L_packed EF hS⟩
  have c_L_is_in : Callee P w K mg base (He.ga K "_law_is_in") fd_L_is_in ["_law_thing", "_law_many"] 2 (spOf (S_L_is_in9 P w K)) := ⟨F_L_is_in.kp, F_L_is_in.bindsN fun _ _ _ _ _ _ us hl => match us, hl with | [_, _], _ => rfl, ok_L_is_in T F_L_is_in c_L_is_marked ⟩
  have c_L_is_int : Callee P w K mg base (He.ga K "_law_is_int") fd_L_is_int ["_law_thing"] 1 (spOf (S_L_is_int P w K)) := ⟨F_L_is_int.kp, F_L_is_int.bindsN fun _ _ _ _ _ _ us hl => match us, hl with | [_], _ => rfl, ok_L_is_int T F_L_is_int  ⟩
  have c_L_wrong : Callee P w K mg base (He.ga K "_law_wrong") fd_L_wrong ["_law_many", "_law_equations", "_law_barred"] 3 (spOf (S_L_wrong9 P w K)) := ⟨F_L_wrong.kp, F_L_wrong.bindsN fun _ _ _ _ _ _ us hl => match us, hl with | [_, _, _], _ => rfl, ok_L_wrong T F_L_wrong c_L_is_in c_L_is_int ⟩
  have c_L_var : Callee P w K mg base (He.ga K "_law_var") fd_L_var ["_law_k"] 1 (spOf (S_L_var P w K)) := ⟨F_L_var.kp, F_L_var.bindsN fun _ _ _ _ _ _ us hl => match us, hl with | [_], _ => rfl, ok_L_var T F_L_var  ⟩
  have c_L_odd : Callee P w K mg base (He.ga K "_law_odd") fd_L_odd ["_law_hand_here"] 3 (spOf (S_L_odd P w K)) := ⟨F_L_odd.kp, F_L_odd.bindsN fun _ _ _ _ _ _ us hl => match us, hl with | [_], _ => rfl, ok_L_odd T F_L_odd c_L_any c_L_mark c_L_var c_L_deep ⟩
  have c_L_bent_rows : Callee P w K mg base (He.ga K "_law_bent_rows") fd_L_bent_rows ["_law_hand_here", "_law_rows"] 4 (spOf (S_L_bent_rows P w K)) := ⟨F_L_bent_rows.kp, F_L_bent_rows.bindsN fun _ _ _ _ _ _ us hl => match us, hl with | [_, _], _ => rfl, ok_L_bent_rows T F_L_bent_rows c_L_any c_L_draw c_L_deep c_L_mark c_L_odd ⟩
  have c_L_bent_parts : Callee P w K mg base (He.ga K "_law_bent_parts") fd_L_bent_parts ["_law_hand_here", "_law_many", "_law_equations", "_law_barred"] 5 (spOf (S_L_bent_parts P w K)) := ⟨F_L_bent_parts.kp, F_L_bent_parts.bindsN fun _ _ _ _ _ _ us hl => match us, hl with | [_, _, _, _], _ => rfl, ok_L_bent_parts T F_L_bent_parts c_L_any c_L_deep c_L_bent_rows c_L_draw ⟩
  have c_L_marks : Callee P w K mg base (He.ga K "_law_marks") fd_L_marks ["_law_some"] 2 (spOf (S_L_marks P w K)) := ⟨F_L_marks.kp, F_L_marks.bindsN fun _ _ _ _ _ _ us hl => match us, hl with | [_], _ => rfl, ok_L_marks T F_L_marks c_L_mark ⟩
  have c_L_plus : Callee P w K mg base (He.ga K "_law_plus") fd_L_plus ["_law_one", "_law_other", "_law_by"] 1 (spOf (S_L_plus P w K)) := ⟨F_L_plus.kp, F_L_plus.bindsN fun _ _ _ _ _ _ us hl => match us, hl with | [_, _, _], _ => rfl, ok_L_plus T F_L_plus  ⟩
  have c_L_small : Callee P w K mg base (He.ga K "_law_small") fd_L_small ["_law_hand_here", "_law_many", "_law_most"] 3 (spOf (S_L_small9 P w K)) := ⟨F_L_small.kp, F_L_small.bindsN fun _ _ _ _ _ _ us hl => match us, hl with | [_, _, _], _ => rfl, ok_L_small T F_L_small c_L_draw c_L_plus c_L_any ⟩
  have c_L_hand : Callee P w K mg base (He.ga K "_law_hand") fd_L_hand ["_law_script"] 1 (spOf (S_L_hand P w K)) := ⟨F_L_hand.kp, F_L_hand.bindsN fun _ _ _ _ _ _ us hl => match us, hl with | [_], _ => rfl, ok_L_hand T F_L_hand  ⟩
  have c_Poly_eq : Callee P w K mg base (He.ma K (He.ga K "Poly") "__eq__") fd_Poly_eq ["self", "other"] 1 (spOf (S_Poly_eq2 P w K)) := ⟨F_Poly_eq.kp, F_Poly_eq.bindsN fun _ _ _ _ _ _ us hl => match us, hl with | [_, _], _ => rfl, ok_Poly_eq T F_Poly_eq  ⟩
  have c_System_eq : Callee P w K mg base (He.ma K (He.ga K "System") "__eq__") fd_System_eq ["self", "other"] 4 (spOf (S_System_eq P w K)) := ⟨F_System_eq.kp, F_System_eq.bindsN fun _ _ _ _ _ _ us hl => match us, hl with | [_, _], _ => rfl, ok_System_eq T F_System_eq  hS pc_Poly c_Poly_eq⟩
  exact ok_law T F_law c_L_is_odd_told c_System_init c_L_packed c_L_made c_L_wrong c_L_bent_parts c_L_marks c_L_small c_L_any c_L_draw c_L_hand hS c_System_eq
end Lw
open PySem PySem.W PySem.Calls PyProof.Rows
set_option maxHeartbeats 0 in
theorem PySem.Challenge.cw_boxedroots_k09_systems_refused_holds : PySem.Challenge.rw_boxedroots_k09_systems_refused.Holds := by
  w_on; o_law
  refine HandSHeadRun.head_any (r := OpenLaw.row PySem.Challenge.rw_boxedroots_k09_systems_refused) (q := view (OpenLaw.row PySem.Challenge.rw_boxedroots_k09_systems_refused).prog [95]) (H := Lw.hk 5) (ob := Lw.ob) (M := 8000) (loose := Lw.names) (d := HandSHeadRun.topDef (OpenLaw.row PySem.Challenge.rw_boxedroots_k09_systems_refused).prog 95) (kwd := []) Lw.ob_eq
    (by kernel_rfl) (fun s => by kernel_rfl) Lw.run (by kernel_rfl) (by kernel_rfl) (by kernel_rfl) (by rfl) (by first | assumption | decide +kernel) (by decide +kernel) ⟨rfl, rfl, rfl, rfl, rfl, by decide +kernel⟩ ?hw ?hc
  case hw => w_witness2
  case hc =>
    refine L2.walk_ofE (l := PySem.Challenge.rw_boxedroots_k09_systems_refused) (n := 63) (k := 38) (x := "_law_script") (CX := L2.CX0) rfl (by decide) (by kernel_rfl) ⟨rfl, by decide, by decide⟩ ?F (fun _ _ _ _ z => z)
    intro w mg fa h Y G hmg0
    obtain ⟨K, KX, c, cx, co, ctb⟩ := Y
    have hmg : mg ("law" : PySem.Str) = some (.ref fa) := by
      have e : (HandSHeadRun.topDef (OpenLaw.row PySem.Challenge.rw_boxedroots_k09_systems_refused).prog 95).name = ("law" : PySem.Str) := by kernel_rfl
      rw [← e]
      exact hmg0
    obtain ⟨fd, hb, hF⟩ := Lw.facts (P := (PySem.Challenge.rw_boxedroots_k09_systems_refused).prog) (w := w) (by rfl) (by rfl) KX G hmg c cx co ctb
    exact ⟨K, fd, BX.spOf (Lw.S_law _ w K), KX, hb, fun H a ns hl hO hS => ⟨[BX.rScr K ns], fun r => r = BX.rBl true, .cons (BX.rScr_of hO hS) .nil, ⟨ns, rfl, Nat.le_trans hl (by decide), rfl⟩, fun r v H' k p _ => by subst k; exact p⟩, hF⟩
