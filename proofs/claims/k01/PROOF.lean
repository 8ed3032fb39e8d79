import PyProof.Rows.All
import Wide.All
import OpenK.AllK
import Wide.FinOn
import HandS.ForMost
import HandS.Walk
import HandS.IsInst
import KE.SortData
import KE.KDictCopyH
import KE.KDictSum
import KE.KDictKeyed
import KE.KDictDisplayH
import KE.KDictItemsList
import KE.KDictPairs
import HandS.More
import HandS.DictTup
import HandS.DictComp
import HandS.ListEq
import HandS.TupAny
import HandS.OwnEq
import HandS.Style
import HandS.Defaults
import HandS.Wide
import KE.GoesMore
import PyProof.EnumMake
import HandS.Zip
import HandS.TupMul
import HandS.Conv
import PyProof.NeKinds
import HandS.List
import HandS.HeadHook1
import HandS.HeadHook2
import HandS.Head0
import HandS.Head1
import HandS.Head2
import HandS.HeadEnd
import Lean
import PySem.Challenge.RW_boxedroots_k01_whole_sums_products_power
set_option Elab.async false
set_option linter.all false
set_option maxRecDepth 100000
/-! BXa: what stands in slots, told by relations that stay; readings over them (my own layer over HandS). -/
namespace BX
open PySem PySem.Spec PyProof.Rows L2

/-! ### the heap's growth -/
theorem Same.new {H : Hp} {p : Addr} {o : HO} (h : H p = none) : Same H (upd H p o) := fun b u e => by
  rw [upd_ne (ne_of_none e h)]; exact e
theorem Same.put {H H' : Hp} {p : Addr} {o : HO} (e : Same H H') (h : H p = none) : Same H (upd H' p o) := fun b u q => by
  rw [upd_ne (ne_of_none q h)]; exact e b u q

/-- the entries of a dict with keys that are tuples: key, the key's own tuple's address, value -/
abbrev DEnt := List Key × Addr × V
section
variable (P : Program) (w : World)
def dxφ (a : Addr) (ks : List DEnt) (h : Heap) : Prop :=
  ks.length ≤ sizeLine ∧ (a == sysModules) = false ∧ ∃ xs : List (List Key × Addr × Value),
    Paired (fun (p : DEnt) (q : List Key × Addr × Value) => p.1 = q.1 ∧ p.2.1 = q.2.1 ∧ RelV p.2.2 q.2.2) ks xs ∧
    ∃ o es ep, h.get? a = some o ∧ o.ExactDict ∧ o.data = .dict es ep ∧ es.toList = xs.map (entryOfKey (tupleKind (mixKind P w))) ∧ (xs.map (·.1)).Nodup
/-- such a dict at a -/
def DXO (a : Addr) (ks : List DEnt) : HO := .ext (dxφ P w a ks)
end
/-- what may change -/
def Chg (o : HO) : Prop := (∃ xs, o = .lst xs) ∨ (∃ k, o = .dK k) ∨ (∃ k, o = .dT k) ∨ (∃ P w a ks, o = DXO P w a ks)
/-- what does not change stays -/
def Im (H H' : Hp) : Prop := ∀ a o, ¬ Chg o → H a = some o → H' a = some o
theorem Im.refl (H : Hp) : Im H H := fun _ _ _ h => h
theorem Im.trans {H H1 H2 : Hp} (a : Im H H1) (b : Im H1 H2) : Im H H2 := fun x o n h => b x o n (a x o n h)
theorem Same.im {H H' : Hp} (e : Same H H') : Im H H' := fun a o _ h => e a o h
theorem Im.upd {H : Hp} {l : Addr} {o o' : HO} (h : H l = some o) (c : Chg o) : Im H (upd H l o') := fun a u n e => by
  rw [upd_ne (fun z => by rw [z, h] at e; cases e; exact n c)]; exact e
theorem tup_nc {xs : List V} : ¬ Chg (.tup xs) := by
  rintro (⟨_, h⟩ | ⟨_, h⟩ | ⟨_, h⟩ | ⟨_, _, _, _, h⟩) <;> cases h
theorem frz_nc {o : Obj} {u : HO} : ¬ Chg (.frz o u) := by
  rintro (⟨_, h⟩ | ⟨_, h⟩ | ⟨_, h⟩ | ⟨_, _, _, _, h⟩) <;> cases h
theorem ins_nc {C dx : Addr} {fs : List (Str × V)} : ¬ Chg (.ins C dx fs) := by
  rintro (⟨_, h⟩ | ⟨_, h⟩ | ⟨_, h⟩ | ⟨_, _, _, _, h⟩) <;> cases h
theorem lst_c {xs : List V} : Chg (.lst xs) := .inl ⟨xs, rfl⟩
theorem dk_c {xs : List (Key × V)} : Chg (.dK xs) := .inr (.inl ⟨xs, rfl⟩)
theorem dx_c {P : Program} {w : World} {a : Addr} {ks : List DEnt} : Chg (DXO P w a ks) := .inr (.inr (.inr ⟨P, w, a, ks, rfl⟩))

/-! ### relations that stay -/
structure Rel where
  p : V → Hp → Prop
  st : ∀ {v : V} {H H' : Hp}, Im H H' → p v H → p v H'
abbrev Al (H : Hp) : List Rel → List V → Prop := Paired fun r v => r.p v H
theorem Al.st {H H' : Hp} (e : Im H H') : ∀ {rs : List Rel} {vs : List V}, Al H rs vs → Al H' rs vs
  | _, _, .nil => .nil
  | _, _, .cons h t => .cons (Rel.st _ e h) (Al.st e t)
theorem Al.get {H : Hp} : ∀ {rs : List Rel} {vs : List V} {i : Nat} {v : V}, Al H rs vs → vs[i]? = some v → ∃ r, rs[i]? = some r ∧ r.p v H
  | _, _, _, _, .nil, e => by simp at e
  | _, _, 0, _, .cons h _, e => by
    simp at e
    subst e
    exact ⟨_, rfl, h⟩
  | _, _, i + 1, v, .cons _ t, e => by
    obtain ⟨r, h1, h2⟩ := Al.get (i := i) t (by simpa using e)
    exact ⟨r, by simpa using h1, h2⟩
theorem Al.get' {H : Hp} {rs : List Rel} {vs : List V} {i : Nat} {r : Rel} (h : Al H rs vs) (e : rs[i]? = some r) : ∃ v, vs[i]? = some v ∧ r.p v H := by
  have hl : i < rs.length := (List.getElem?_eq_some_iff.mp e).1
  have hl2 : i < vs.length := by rw [← Paired.length h]; exact hl
  obtain ⟨r', h1, h2⟩ := Al.get h (List.getElem?_eq_getElem hl2)
  rw [e] at h1
  cases h1
  exact ⟨_, List.getElem?_eq_getElem hl2, h2⟩

def rC (c : V) : Rel := ⟨fun v _ => v = c, fun _ h => h⟩
abbrev rInt (i : Int) : Rel := rC (.int i)
abbrev rBl (b : Bool) : Rel := rC (.bl b)
abbrev rStr (s : Str) : Rel := rC (.str s)
abbrev rNon : Rel := rC .non
theorem sqT_im {K : PySem.W.Frag} {H H' : Hp} {a : Addr} {xs : List V} (e : Im H H') (h : SqT K H a xs) : SqT K H' a xs := by
  rcases h with (h | ⟨o, h⟩) | h
  · exact .inl (.inl (e _ _ tup_nc h))
  · exact .inl (.inr ⟨o, e _ _ frz_nc h⟩)
  · exact .inr h
/-- a tuple -/
def rTup (K : PySem.W.Frag) (rs : List Rel) : Rel := ⟨fun v H => ∃ a xs, v = .ref a ∧ SqT K H a xs ∧ Al H rs xs, fun e ⟨a, xs, h1, h2, h3⟩ => ⟨a, xs, h1, sqT_im e h2, h3.st e⟩⟩
/-- a list that is not changed any more -/
def rLst (rs : List Rel) : Rel := ⟨fun v H => ∃ a o xs, v = .ref a ∧ H a = some (.frz o (.lst xs)) ∧ Al H rs xs, fun e ⟨a, o, xs, h1, h2, h3⟩ => ⟨a, o, xs, h1, e _ _ frz_nc h2, h3.st e⟩⟩
/-- a dict by ints and texts that is not changed any more -/
def rDic (kvs : List (Key × Rel)) : Rel := ⟨fun v H => ∃ a o xs, v = .ref a ∧ H a = some (.frz o (.dK xs)) ∧ Paired (fun (p : Key × Rel) (q : Key × V) => p.1 = q.1 ∧ p.2.p q.2 H) kvs xs,
  fun e ⟨a, o, xs, h1, h2, h3⟩ => ⟨a, o, xs, h1, e _ _ frz_nc h2, Paired.mapP h3 fun _ _ ⟨z1, z2⟩ => ⟨z1, Rel.st _ e z2⟩⟩⟩
/-- the entries of a dict with keys that are tuples, by relations -/
def ik (k : List Int) : List Key := k.map Sum.inl
theorem ik_kV (k : List Int) : (ik k).map kV = k.map V.int := by
  unfold ik
  rw [List.map_map]
  rfl
theorem ik_inj {a b : List Int} (h : ik a = ik b) : a = b := by
  have e : (ik a).map kV = (ik b).map kV := by rw [h]
  rw [ik_kV, ik_kV] at e
  exact (List.map_inj_right (fun x y z => by injection z)).mp e
abbrev AlX (K : PySem.W.Frag) (H : Hp) : List (List Int × Rel) → List DEnt → Prop :=
  Paired fun p q => ik p.1 = q.1 ∧ SqT K H q.2.1 (p.1.map V.int) ∧ p.2.p q.2.2 H
theorem AlX.st {K : PySem.W.Frag} {H H' : Hp} (e : Im H H') {ks : List (List Int × Rel)} {es : List DEnt} (h : AlX K H ks es) : AlX K H' ks es :=
  Paired.mapP h fun _ _ ⟨z1, z2, z3⟩ => ⟨z1, sqT_im e z2, Rel.st _ e z3⟩
def rDct (P : Program) (w : World) (K : PySem.W.Frag) (ks : List (List Int × Rel)) : Rel := ⟨fun v H => ∃ a o es, v = .ref a ∧ H a = some (.frz o (DXO P w a es)) ∧ AlX K H ks es,
  fun e ⟨a, o, es, h1, h2, h3⟩ => ⟨a, o, es, h1, e _ _ frz_nc h2, h3.st e⟩⟩
/-- an object of the class at C whose attributes are these -/
def rIns (C : Addr) (fs : List (Str × Rel)) : Rel := ⟨fun v H => ∃ a dx xs, v = .ref a ∧ H a = some (.ins C dx xs) ∧ Paired (fun (p : Str × Rel) (q : Str × V) => p.1 = q.1 ∧ p.2.p q.2 H) fs xs,
  fun e ⟨a, dx, xs, h1, h2, h3⟩ => ⟨a, dx, xs, h1, e _ _ ins_nc h2, Paired.mapP h3 fun _ _ ⟨z1, z2⟩ => ⟨z1, Rel.st _ e z2⟩⟩⟩

/-! ### what a slot holds -/
inductive Ty where
  | no
  | im (r : Rel)
  | ml (rs : List Rel)
  | mx (ks : List (List Int × Rel))
abbrev Ctx := List Ty
/-- the fixed things of a body: the text, the world, the written part, the heap at the entry -/
structure Bd where
  P : Program
  w : World
  K : PySem.W.Frag
  H0 : Hp
  /-- what else is known of the heap, and stays -/
  fx : Hp → Prop := fun _ => True
  fs : ∀ H H', Im H H' → fx H → fx H' := by exact fun _ _ _ _ => trivial
/-- one thing more is known -/
abbrev Bd.more (B : Bd) (G : Hp → Prop) (st : ∀ H H', Im H H' → G H → G H') : Bd := ⟨B.P, B.w, B.K, B.H0, fun H => B.fx H ∧ G H, fun H H' e h => ⟨B.fs H H' e h.1, st H H' e h.2⟩⟩
def TyOk (B : Bd) (H : Hp) : Ty → Option V → Prop
  | .no, _ => True
  | .im r, ov => ∃ v, ov = some v ∧ r.p v H
  | .ml rs, ov => ∃ l xs, ov = some (.ref l) ∧ B.H0 l = none ∧ H l = some (.lst xs) ∧ Al H rs xs
  | .mx ks, ov => ∃ l es, ov = some (.ref l) ∧ B.H0 l = none ∧ H l = some (DXO B.P B.w l es) ∧ AlX B.K H ks es
def Ty.mut : Ty → Bool
  | .ml _ => true
  | .mx _ => true
  | _ => false
structure Env (B : Bd) (Γ : Ctx) (σ : L2.St) (H : Hp) : Prop where
  len : σ.length = Γ.length
  ex : Same B.H0 H
  fx : B.fx H
  ty : ∀ (i : Nat) t, Γ[i]? = some t → ∃ ov, σ[i]? = some ov ∧ TyOk B H t ov
  dis : ∀ (i j : Nat) (t u : Ty) (l : Addr), i ≠ j → Γ[i]? = some t → Γ[j]? = some u → t.mut = true → u.mut = true → σ[i]? = some (some (V.ref l)) → σ[j]? = some (some (V.ref l)) → False

section
variable {B : Bd} {Γ : Ctx} {σ : L2.St} {H H' : Hp}
theorem TyOk.ex {t : Ty} {ov : Option V} (e : Same H H') (h : TyOk B H t ov) : TyOk B H' t ov := by
  cases t with
  | no => trivial
  | im r => obtain ⟨v, h1, h2⟩ := h; exact ⟨v, h1, r.st (Same.im e) h2⟩
  | ml rs => obtain ⟨l, xs, h1, h2, h3, h4⟩ := h; exact ⟨l, xs, h1, h2, e _ _ h3, h4.st (Same.im e)⟩
  | mx ks => obtain ⟨l, es, h1, h2, h3, h4⟩ := h; exact ⟨l, es, h1, h2, e _ _ h3, h4.st (Same.im e)⟩
theorem Env.mono (E : Env B Γ σ H) (e : Same H H') : Env B Γ σ H' :=
  ⟨E.len, Same.trans E.ex e, B.fs _ _ (Same.im e) E.fx, fun i t h => let ⟨ov, h1, h2⟩ := E.ty i t h; ⟨ov, h1, h2.ex e⟩, E.dis⟩
theorem Env.im_at (E : Env B Γ σ H) {i : Nat} {r : Rel} (h : Γ[i]? = some (.im r)) : ∃ v, σ[i]? = some (some v) ∧ r.p v H := by
  obtain ⟨ov, h1, v, h2, h3⟩ := E.ty i _ h
  subst h2
  exact ⟨v, h1, h3⟩
/-- a slot gets a thing that stays -/
theorem Env.set (E : Env B Γ σ H) (i : Nat) {r : Rel} {v : V} (h : r.p v H) : Env B (Γ.set i (.im r)) (σ.set i (some v)) H := by
  refine ⟨by rw [List.length_set, List.length_set]; exact E.len, E.ex, E.fx, fun j t e => ?_, fun j k t u l hjk e1 e2 m1 m2 q1 q2 => ?_⟩
  · by_cases hj : i = j
    · subst hj
      have hl : i < Γ.length := by
        rcases Nat.lt_or_ge i Γ.length with hl | hl
        · exact hl
        · rw [List.getElem?_eq_none (by rw [List.length_set]; exact hl)] at e; cases e
      rw [List.getElem?_set_self hl] at e
      cases e
      refine ⟨some v, List.getElem?_set_self (by rw [E.len]; exact hl), v, rfl, h⟩
    · rw [List.getElem?_set_ne hj] at e
      rw [List.getElem?_set_ne hj]
      exact E.ty j t e
  · have nj : i ≠ j := fun z => by
      subst z
      have hl : i < Γ.length := by
        rcases Nat.lt_or_ge i Γ.length with hl | hl
        · exact hl
        · rw [List.getElem?_eq_none (by rw [List.length_set]; exact hl)] at e1; cases e1
      rw [List.getElem?_set_self hl] at e1
      cases e1
      cases m1
    have nk : i ≠ k := fun z => by
      subst z
      have hl : i < Γ.length := by
        rcases Nat.lt_or_ge i Γ.length with hl | hl
        · exact hl
        · rw [List.getElem?_eq_none (by rw [List.length_set]; exact hl)] at e2; cases e2
      rw [List.getElem?_set_self hl] at e2
      cases e2
      cases m2
    rw [List.getElem?_set_ne nj] at e1 q1
    rw [List.getElem?_set_ne nk] at e2 q2
    exact E.dis j k t u l hjk e1 e2 m1 m2 q1 q2
theorem set_at {α : Type} {l : List α} {i : Nat} {x y : α} (h : (l.set i x)[i]? = some y) : i < l.length ∧ y = x := by
  rcases Nat.lt_or_ge i l.length with hl | hl
  · rw [List.getElem?_set_self hl] at h
    exact ⟨hl, (Option.some.inj h).symm⟩
  · rw [List.getElem?_eq_none (by rw [List.length_set]; exact hl)] at h
    cases h
/-- a slot gets a new thing that may change -/
theorem Env.setM (E : Env B Γ σ H) (i : Nat) {t : Ty} {l : Addr} (e : Same H H') (hn : H l = none) (h : TyOk B H' t (some (.ref l))) : Env B (Γ.set i t) (σ.set i (some (.ref l))) H' := by
  have old : ∀ (j : Nat) (u : Ty), Γ[j]? = some u → u.mut = true → σ[j]? = some (some (V.ref l)) → False := fun j u h1 h2 h3 => by
    obtain ⟨ov', q1, q2⟩ := E.ty j u h1
    rw [h3] at q1
    cases q1
    cases u with
    | ml rs =>
      obtain ⟨l', xs, z1, _, z3, _⟩ := q2
      cases z1
      rw [hn] at z3
      cases z3
    | mx ks =>
      obtain ⟨l', xs, z1, _, z3, _⟩ := q2
      cases z1
      rw [hn] at z3
      cases z3
    | _ => cases h2
  refine ⟨by rw [List.length_set, List.length_set]; exact E.len, Same.trans E.ex e, B.fs _ _ (Same.im e) E.fx, fun j u q => ?_, fun j k u v l' hjk e1 e2 m1 m2 q1 q2 => ?_⟩
  · by_cases hj : i = j
    · subst hj
      obtain ⟨hl, rfl⟩ := set_at q
      exact ⟨_, List.getElem?_set_self (by rw [E.len]; exact hl), h⟩
    · rw [List.getElem?_set_ne hj] at q
      rw [List.getElem?_set_ne hj]
      obtain ⟨ov, h1, h2⟩ := E.ty j u q
      exact ⟨ov, h1, h2.ex e⟩
  · by_cases hj : i = j
    · subst hj
      have hk : i ≠ k := hjk
      obtain ⟨hl, rfl⟩ := set_at e1
      rw [List.getElem?_set_self (by rw [E.len]; exact hl)] at q1
      cases q1
      rw [List.getElem?_set_ne hk] at e2 q2
      exact old k v e2 m2 q2
    · rw [List.getElem?_set_ne hj] at e1 q1
      by_cases hk : i = k
      · subst hk
        obtain ⟨hl, rfl⟩ := set_at e2
        rw [List.getElem?_set_self (by rw [E.len]; exact hl)] at q2
        cases q2
        exact old j u e1 m1 q1
      · rw [List.getElem?_set_ne hk] at e2 q2
        exact E.dis j k u v l' hjk e1 e2 m1 m2 q1 q2
/-- a thing in a slot is changed -/
theorem Env.chg (E : Env B Γ σ H) {i : Nat} {t t' : Ty} {l : Addr} {o o' : HO} (hi : Γ[i]? = some t) (hm : t.mut = true) (hs : σ[i]? = some (some (.ref l))) (ho : H l = some o) (hc : Chg o) (h0 : B.H0 l = none)
    (h : TyOk B (upd H l o') t' (some (.ref l))) : Env B (Γ.set i t') σ (upd H l o') := by
  have im : Im H (upd H l o') := Im.upd ho hc
  have other : ∀ (j : Nat) (u : Ty) (ov : Option V), i ≠ j → Γ[j]? = some u → σ[j]? = some ov → TyOk B H u ov → TyOk B (upd H l o') u ov := fun j u ov hj h1 h2 h3 => by
    cases u with
    | no => trivial
    | im r => obtain ⟨v, z1, z2⟩ := h3; exact ⟨v, z1, r.st im z2⟩
    | ml rs =>
      obtain ⟨l', xs, z1, z2, z3, z4⟩ := h3
      refine ⟨l', xs, z1, z2, ?_, z4.st im⟩
      rw [upd_ne (fun z => by subst z; subst z1; exact E.dis i j t _ l' hj hi h1 hm rfl hs h2)]
      exact z3
    | mx rs =>
      obtain ⟨l', xs, z1, z2, z3, z4⟩ := h3
      refine ⟨l', xs, z1, z2, ?_, z4.st im⟩
      rw [upd_ne (fun z => by subst z; subst z1; exact E.dis i j t _ l' hj hi h1 hm rfl hs h2)]
      exact z3
  refine ⟨by rw [List.length_set]; exact E.len, Same.put E.ex h0, B.fs _ _ im E.fx, fun j u q => ?_, fun j k u v l' hjk e1 e2 m1 m2 q1 q2 => ?_⟩
  · by_cases hj : i = j
    · subst hj
      obtain ⟨hl, rfl⟩ := set_at q
      exact ⟨_, hs, h⟩
    · rw [List.getElem?_set_ne hj] at q
      obtain ⟨ov, h1, h2⟩ := E.ty j u q
      exact ⟨ov, h1, other j u ov hj q h1 h2⟩
  · by_cases hj : i = j
    · subst hj
      have hk : i ≠ k := hjk
      rw [List.getElem?_set_ne hk] at e2
      exact E.dis i k t v l' hjk hi e2 hm m2 q1 q2
    · rw [List.getElem?_set_ne hj] at e1
      by_cases hk : i = k
      · subst hk
        exact E.dis j i u t l' hjk e1 hi m1 hm q1 q2
      · rw [List.getElem?_set_ne hk] at e2
        exact E.dis j k u v l' hjk e1 e2 m1 m2 q1 q2
theorem Env.weak {Γ' : Ctx} (E : Env B Γ σ H) (hl : Γ'.length = Γ.length) (h : ∀ (i : Nat) t', Γ'[i]? = some t' → t' = .no ∨ Γ[i]? = some t') : Env B Γ' σ H := by
  refine ⟨by rw [hl]; exact E.len, E.ex, E.fx, fun i t q => ?_, fun j k u v l' hjk e1 e2 m1 m2 q1 q2 => ?_⟩
  · rcases h i t q with z | z
    · subst z
      have hi : i < σ.length := by rw [E.len, ← hl]; exact (List.getElem?_eq_some_iff.mp q).1
      exact ⟨σ[i], List.getElem?_eq_getElem hi, trivial⟩
    · exact E.ty i t z
  · rcases h j u e1 with z | z
    · subst z; cases m1
    · rcases h k v e2 with y | y
      · subst y; cases m2
      · exact E.dis j k u v l' hjk z y m1 m2 q1 q2
/-- less is told -/
inductive Weak : Ctx → Ctx → Prop
  | nil : Weak [] []
  | no {t : Ty} {l l' : Ctx} : Weak l l' → Weak (t :: l) (.no :: l')
  | eq {t : Ty} {l l' : Ctx} : Weak l l' → Weak (t :: l) (t :: l')
theorem Weak.len : ∀ {a b : Ctx}, Weak a b → b.length = a.length
  | _, _, .nil => rfl
  | _, _, .no h => congrArg Nat.succ h.len
  | _, _, .eq h => congrArg Nat.succ h.len
theorem Weak.at : ∀ {a b : Ctx}, Weak a b → ∀ (i : Nat) t', b[i]? = some t' → t' = .no ∨ a[i]? = some t'
  | _, _, .nil, i, t', h => by simp at h
  | _, _, .no h, 0, t', e => by simp at e; exact .inl e.symm
  | _, _, .eq h, 0, t', e => by simp at e; subst e; exact .inr rfl
  | _, _, .no h, i + 1, t', e => h.at i t' (by simpa using e)
  | _, _, .eq h, i + 1, t', e => h.at i t' (by simpa using e)
theorem Env.wk {Γ' : Ctx} (E : Env B Γ σ H) (h : Weak Γ Γ') : Env B Γ' σ H := E.weak h.len h.at
theorem Weak.refl : ∀ (a : Ctx), Weak a a
  | [] => .nil
  | t :: l => .eq (Weak.refl l)
/-- the block's own names are not known within it -/
def wipeC (Γ : Ctx) : List Nat → Ctx
  | [] => Γ
  | v :: vs => (wipeC Γ vs).set v .no
theorem Env.setNo (E : Env B Γ σ H) (i : Nat) : Env B (Γ.set i .no) (σ.set i none) H := by
  refine ⟨by rw [List.length_set, List.length_set]; exact E.len, E.ex, E.fx, fun j t e => ?_, fun j k t u l hjk e1 e2 m1 m2 q1 q2 => ?_⟩
  · by_cases hj : i = j
    · subst hj
      obtain ⟨hl, rfl⟩ := set_at e
      exact ⟨none, List.getElem?_set_self (by rw [E.len]; exact hl), trivial⟩
    · rw [List.getElem?_set_ne hj] at e
      rw [List.getElem?_set_ne hj]
      exact E.ty j t e
  · have nj : i ≠ j := fun z => by
      subst z
      obtain ⟨_, rfl⟩ := set_at e1
      cases m1
    have nk : i ≠ k := fun z => by
      subst z
      obtain ⟨_, rfl⟩ := set_at e2
      cases m2
    rw [List.getElem?_set_ne nj] at e1 q1
    rw [List.getElem?_set_ne nk] at e2 q2
    exact E.dis j k t u l hjk e1 e2 m1 m2 q1 q2
theorem Env.wipe (E : Env B Γ σ H) : ∀ vs : List Nat, Env B (wipeC Γ vs) (L2.wipe σ vs) H
  | [] => E
  | v :: vs => (E.wipe vs).setNo v
theorem Env.more {G : Hp → Prop} {st : ∀ H H', Im H H' → G H → G H'} (E : Env B Γ σ H) (h : G H) : Env (B.more G st) Γ σ H :=
  ⟨E.len, E.ex, ⟨E.fx, h⟩, fun i t e => let ⟨ov, h1, h2⟩ := E.ty i t e; ⟨ov, h1, by cases t <;> exact h2⟩, E.dis⟩
theorem Env.less {G : Hp → Prop} {st : ∀ H H', Im H H' → G H → G H'} (E : Env (B.more G st) Γ σ H) : Env B Γ σ H :=
  ⟨E.len, E.ex, E.fx.1, fun i t e => let ⟨ov, h1, h2⟩ := E.ty i t e; ⟨ov, h1, by cases t <;> exact h2⟩, E.dis⟩
theorem wipe_of {σ σ' : L2.St} : ∀ {vs : List Nat}, σ'.length = σ.length → (∀ i, i ∉ vs → σ'[i]? = σ[i]?) → L2.wipe σ' vs = L2.wipe σ vs := by
  intro vs hl h
  have key : ∀ (τ : L2.St) (vs : List Nat) (i : Nat), (L2.wipe τ vs)[i]? = if i ∈ vs then (if i < τ.length then some none else none) else τ[i]? := by
    intro τ vs i
    induction vs with
    | nil => simp [L2.wipe]
    | cons v vs ih =>
      unfold L2.wipe
      by_cases hv : v = i
      · subst hv
        by_cases hi : v < τ.length
        · rw [List.getElem?_set_self (by rw [wipe_length]; exact hi)]
          simp [hi]
        · rw [List.getElem?_eq_none (by rw [List.length_set, wipe_length]; omega)]
          simp [hi]
      · rw [List.getElem?_set_ne hv, ih]
        have e : (i ∈ v :: vs) ↔ (i ∈ vs) := by
          simp only [List.mem_cons]
          exact ⟨fun z => z.elim (fun q => absurd q.symm hv) id, .inr⟩
        simp only [e]
  apply List.ext_getElem?
  intro i
  rw [key, key, hl]
  by_cases hi : i ∈ vs
  · rw [if_pos hi, if_pos hi]
  · rw [if_neg hi, if_neg hi]
    exact h i hi
end
end BX
set_option Elab.async false
set_option linter.all false
set_option maxRecDepth 100000
/-! BXb: readings over told slots: expressions, tests, calls, statements, loops, comprehensions. -/
namespace BX
open PySem PySem.Spec PyProof.Rows L2

def WpE (B : Bd) (Γ : Ctx) (te : TE) (k : Rel → Prop) : Prop :=
  ∀ σ H, Env B Γ σ H → ∀ Q : VK, (∀ r v H', k r → r.p v H' → Same H H' → Q v H') → te σ H Q
/-- a new list -/
def WpL (B : Bd) (Γ : Ctx) (te : TE) (k : List Rel → Prop) : Prop :=
  ∀ σ H, Env B Γ σ H → ∀ Q : VK, (∀ rs p xs H', k rs → H p = none → Same H H' → H' p = some (.lst xs) → Al H' rs xs → Q (.ref p) H') → te σ H Q
/-- a new dict with tuples as keys -/
def WpX (B : Bd) (Γ : Ctx) (te : TE) (k : List (List Int × Rel) → Prop) : Prop :=
  ∀ σ H, Env B Γ σ H → ∀ Q : VK, (∀ ks p es H', k ks → H p = none → Same H H' → H' p = some (DXO B.P B.w p es) → AlX B.K H' ks es → Q (.ref p) H') → te σ H Q
/-- a new dict with texts and ints as keys -/
def WpD (B : Bd) (Γ : Ctx) (te : TE) (k : List (Key × Rel) → Prop) : Prop :=
  ∀ σ H, Env B Γ σ H → ∀ Q : VK, (∀ ks p es H', k ks → H p = none → Same H H' → H' p = some (.dK es) → Paired (fun (p : Key × Rel) (q : Key × V) => p.1 = q.1 ∧ p.2.p q.2 H') ks es → Q (.ref p) H') → te σ H Q
def WpT (B : Bd) (Γ : Ctx) (tt : TT) (k : Bool → Prop) : Prop :=
  ∀ σ H, Env B Γ σ H → ∀ Q : Bool → Hp → Prop, (∀ b H', k b → Same H H' → Q b H') → tt σ H Q
def WpA (B : Bd) (Γ : Ctx) (ta : TA) (k : List Rel → Prop) : Prop :=
  ∀ σ H, Env B Γ σ H → ∀ Q : List V → Hp → Prop, (∀ rs vs H', k rs → Al H' rs vs → Same H H' → Q vs H') → ta σ H Q
def WpO (B : Bd) (Γ : Ctx) (to : TO) (k : Option Int → Prop) : Prop :=
  ∀ σ H, Env B Γ σ H → ∀ Q : Option Int → Hp → Prop, (∀ o H', k o → Same H H' → Q o H') → to σ H Q
/-- statements -/
def WpS (B : Bd) (D : Ends) (Γ : Ctx) (t : TS) : Prop := ∀ σ H, Env B Γ σ H → t D σ H
/-- what a two-place operation gives -/
def OpT (B : Bd) (r : R2) (ra rb : Rel) (k : Rel → Prop) : Prop :=
  ∀ H x y, Same B.H0 H → ra.p x H → rb.p y H → ∀ Q : VK, (∀ rr v H', k rr → rr.p v H' → Same H H' → Q v H') → r x y H Q
def UnT (B : Bd) (r : V → Hp → VK → Prop) (ra : Rel) (k : Rel → Prop) : Prop :=
  ∀ H x, Same B.H0 H → ra.p x H → ∀ Q : VK, (∀ rr v H', k rr → rr.p v H' → Same H H' → Q v H') → r x H Q
/-- what a call of a thing of Python's own gives -/
def CaT (B : Bd) (r : List V → Hp → VK → Prop) (rs : List Rel) (k : Rel → Prop) : Prop :=
  ∀ H vs, Same B.H0 H → Al H rs vs → ∀ Q : VK, (∀ rr v H', k rr → rr.p v H' → Same H H' → Q v H') → r vs H Q

section
variable {B : Bd} {Γ : Ctx} {ta tb tc te : TE} {t u : TT} {k : Rel → Prop} {kb : Bool → Prop} {D : Ends}

/-! ### expressions -/
theorem we_var {i : Nat} {r : Rel} (h : Γ[i]? = some (.im r)) (q : k r) : WpE B Γ (tVar i) k := fun σ H E Q hQ => by
  obtain ⟨v, h1, h2⟩ := E.im_at h
  exact ⟨v, h1, hQ r v H q h2 (Same.refl H)⟩
theorem we_c {v : V} (q : k (rC v)) : WpE B Γ (tC v) k := fun σ H E Q hQ => hQ _ v H q rfl (Same.refl H)
theorem we_cr {v : V} (r : Rel) (hr : ∀ H, Same B.H0 H → r.p v H) (q : k r) : WpE B Γ (tC v) k := fun σ H E Q hQ => hQ _ v H q (hr H E.ex) (Same.refl H)
theorem we_mono {k' : Rel → Prop} (h : WpE B Γ te k) (m : ∀ r, k r → k' r) : WpE B Γ te k' := fun σ H E Q hQ => h σ H E Q fun r v H' q => hQ r v H' (m r q)
theorem we_op {r : R2} (h : WpE B Γ ta fun ra => WpE B Γ tb fun rb => OpT B r ra rb k) : WpE B Γ (tOp r ta tb) k := fun σ H E Q hQ =>
  h σ H E _ fun ra x H1 h1 p1 e1 => h1 σ H1 (E.mono e1) _ fun rb y H2 h2 p2 e2 =>
    h2 H2 x y (Same.trans E.ex (Same.trans e1 e2)) (ra.st (Same.im e2) p1) p2 Q fun rr v H' q p e => hQ rr v H' q p (Same.trans e1 (Same.trans e2 e))
theorem we_un {r : V → Hp → VK → Prop} (h : WpE B Γ ta fun ra => UnT B r ra k) : WpE B Γ (tUn r ta) k := fun σ H E Q hQ =>
  h σ H E _ fun ra x H1 h1 p1 e1 => h1 H1 x (Same.trans E.ex e1) p1 Q fun rr v H' q p e => hQ rr v H' q p (Same.trans e1 e)
theorem we_cb {r : List V → Hp → VK → Prop} {tA : TA} (h : WpA B Γ tA fun rs => CaT B r rs k) : WpE B Γ (tCB r tA) k := fun σ H E Q hQ =>
  h σ H E _ fun rs vs H1 h1 p1 e1 => h1 H1 vs (Same.trans E.ex e1) p1 Q fun rr v H' q p e => hQ rr v H' q p (Same.trans e1 e)
theorem wa_nil {ka : List Rel → Prop} (q : ka []) : WpA B Γ tNil ka := fun σ H E Q hQ => hQ [] [] H q .nil (Same.refl H)
theorem wa_cons {tr : TA} {ka : List Rel → Prop} (h : WpE B Γ te fun r => WpA B Γ tr fun rs => ka (r :: rs)) : WpA B Γ (tCons te tr) ka := fun σ H E Q hQ =>
  h σ H E _ fun r v H1 h1 p1 e1 => h1 σ H1 (E.mono e1) _ fun rs vs H2 h2 p2 e2 => hQ (r :: rs) (v :: vs) H2 h2 (.cons (r.st (Same.im e2) p1) p2) (Same.trans e1 e2)
/-- a def's promise by relations -/
abbrev Spc := List Rel → (Rel → Prop) → Prop
def spOf (S : Spc) : Sp := fun vs H Q _ => ∃ rs k, Al H rs vs ∧ S rs k ∧ ∀ r v H', k r → r.p v H' → Same H H' → Q v H'
theorem we_call {S : Spc} {E0' : XK} {tA : TA} (h : WpA B Γ tA fun rs => S rs k) : WpE B Γ (tCall (spOf S) [] E0' tA) k := fun σ H E Q hQ =>
  h σ H E _ fun rs vs H1 h1 p1 e1 => by
    show spOf S (vs ++ []) H1 Q E0'
    rw [List.append_nil]
    exact ⟨rs, k, p1, h1, fun r v H' q p e => hQ r v H' q p (Same.trans e1 e)⟩
theorem we_if (h : WpT B Γ t fun b => (b = true → WpE B Γ ta k) ∧ (b = false → WpE B Γ tb k)) : WpE B Γ (tIf t ta tb) k := fun σ H E Q hQ =>
  h σ H E _ fun b H1 hb e1 => by
    cases b with
    | true => exact iteT (hb.1 rfl σ H1 (E.mono e1) Q fun r v H' q p e => hQ r v H' q p (Same.trans e1 e))
    | false => exact iteF (hb.2 rfl σ H1 (E.mono e1) Q fun r v H' q p e => hQ r v H' q p (Same.trans e1 e))
/-- truth values by and, or, not -/
theorem we_andV (h : WpE B Γ ta fun r => ∃ a, r = rBl a ∧ (a = true → WpE B Γ tb k) ∧ (a = false → k (rBl false))) : WpE B Γ (tAndV ta tb) k := fun σ H E Q hQ =>
  h σ H E _ fun r v H1 ⟨a, er, h1, h2⟩ p1 e1 => by
    subst er
    refine ⟨a, p1, ?_⟩
    cases a with
    | true => exact iteT (h1 rfl σ H1 (E.mono e1) Q fun r v H' q p e => hQ r v H' q p (Same.trans e1 e))
    | false => exact iteF (hQ _ _ H1 (h2 rfl) rfl e1)
theorem we_orV (h : WpE B Γ ta fun r => ∃ a, r = rBl a ∧ (a = true → k (rBl true)) ∧ (a = false → WpE B Γ tb k)) : WpE B Γ (tOrV ta tb) k := fun σ H E Q hQ =>
  h σ H E _ fun r v H1 ⟨a, er, h1, h2⟩ p1 e1 => by
    subst er
    refine ⟨a, p1, ?_⟩
    cases a with
    | true => exact iteT (hQ _ _ H1 (h1 rfl) rfl e1)
    | false => exact iteF (h2 rfl σ H1 (E.mono e1) Q fun r v H' q p e => hQ r v H' q p (Same.trans e1 e))
theorem we_notV (h : WpE B Γ ta fun r => ∃ a, r = rBl a ∧ k (rBl (!a))) : WpE B Γ (tNotV ta) k := fun σ H E Q hQ =>
  h σ H E _ fun r v H1 ⟨a, er, h1⟩ p1 e1 => by
    subst er
    exact ⟨a, p1, hQ _ _ H1 h1 rfl e1⟩
theorem we_tup {tA : TA} (h : WpA B Γ tA fun rs => rs.length ≤ sizeLine ∧ k (rTup B.K rs)) : WpE B Γ (tTup tA) k := fun σ H E Q hQ =>
  h σ H E _ fun rs vs H1 ⟨hl, hk⟩ p1 e1 => ⟨by rw [← Paired.length p1]; exact hl, fun p hp => hQ _ _ _ hk ⟨p, vs, rfl, .inl (.inl upd_same), p1.st (Same.im (Same.new hp))⟩ (Same.trans e1 (Same.new hp))⟩
theorem wl_lst {tA : TA} {kl : List Rel → Prop} (h : WpA B Γ tA fun rs => rs.length ≤ sizeLine ∧ kl rs) : WpL B Γ (tLst tA) kl := fun σ H E Q hQ =>
  h σ H E _ fun rs vs H1 ⟨hl, hk⟩ p1 e1 => ⟨by rw [← Paired.length p1]; exact hl, fun p hp => hQ rs p vs _ hk (Same.free e1 hp) (Same.trans e1 (Same.new hp)) upd_same (p1.st (Same.im (Same.new hp)))⟩
/-- an object's attribute -/
theorem we_fld {f : Str} (h : WpE B Γ ta fun r => ∃ C fs rf, r = rIns C fs ∧ Cls B.K C ∧ NoAttr B.K C f ∧ fs.lookup f = some rf ∧ k rf) : WpE B Γ (tFld B.K ta f) k := fun σ H E Q hQ =>
  h σ H E _ fun r v H1 ⟨C, fs, rf, er, c, na, hl, hk⟩ p1 e1 => by
    subst er
    obtain ⟨a, dx, xs, rfl, ha, hp⟩ := p1
    have key : ∀ {fs : List (Str × Rel)} {xs : List (Str × V)}, Paired (fun (p : Str × Rel) (q : Str × V) => p.1 = q.1 ∧ p.2.p q.2 H1) fs xs → fs.lookup f = some rf → ∃ v, xs.lookup f = some v ∧ rf.p v H1 := by
      intro fs xs hp
      induction hp with
      | nil => intro e; cases e
      | @cons p q l1 l2 h t ih =>
        intro e
        obtain ⟨n, r⟩ := p
        obtain ⟨m, v⟩ := q
        obtain ⟨e1, e2⟩ := h
        subst e1
        by_cases c : f = n
        · subst c
          simp [List.lookup] at e
          subst e
          exact ⟨v, by simp [List.lookup], e2⟩
        · have cb : (f == n) = false := by simpa using c
          simp only [List.lookup, cb] at e ⊢
          exact ih e
    obtain ⟨v, hv, pv⟩ := key hp hl
    exact ⟨a, C, dx, xs, v, rfl, ha, c, na, hv, hQ _ _ _ hk pv e1⟩

/-! ### tests -/
theorem wt_test (h : WpE B Γ te fun r => ∃ b, r = rBl b ∧ kb b) : WpT B Γ (tTest te) kb := fun σ H E Q hQ =>
  h σ H E _ fun r v H1 ⟨b, er, hk⟩ p1 e1 => by
    subst er
    exact ⟨b, p1, hQ b H1 hk e1⟩
theorem wt_B (h : WpE B Γ te fun r => ∃ b, r = rBl b ∧ kb b) : WpT B Γ (tB te) kb := fun σ H E Q hQ =>
  h σ H E _ fun r v H1 ⟨b, er, hk⟩ p1 e1 => by
    subst er
    exact ⟨b, p1, hQ b H1 hk e1⟩
theorem wt_and (h : WpT B Γ t fun a => (a = true → WpT B Γ u kb) ∧ (a = false → kb false)) : WpT B Γ (tAnd t u) kb := fun σ H E Q hQ =>
  h σ H E _ fun a H1 hb e1 => by
    cases a with
    | true => exact iteT (hb.1 rfl σ H1 (E.mono e1) Q fun b H' q e => hQ b H' q (Same.trans e1 e))
    | false => exact iteF (hQ false H1 (hb.2 rfl) e1)
theorem wt_or (h : WpT B Γ t fun a => (a = true → kb true) ∧ (a = false → WpT B Γ u kb)) : WpT B Γ (tOr t u) kb := fun σ H E Q hQ =>
  h σ H E _ fun a H1 hb e1 => by
    cases a with
    | true => exact iteT (hQ true H1 (hb.1 rfl) e1)
    | false => exact iteF (hb.2 rfl σ H1 (E.mono e1) Q fun b H' q e => hQ b H' q (Same.trans e1 e))
theorem wt_not (h : WpT B Γ t fun a => kb (!a)) : WpT B Γ (tNot t) kb := fun σ H E Q hQ =>
  h σ H E _ fun a H1 hb e1 => hQ _ H1 hb e1
/-- the words of a chain of two comparisons -/
theorem we_chain {r r' : R2} (h : WpE B Γ ta fun ra => WpE B Γ tb fun rb => OpT B r ra rb fun rr => ∃ b, rr = rBl b ∧ (b = true → WpE B Γ tc fun rc => OpT B r' rb rc k) ∧ (b = false → k (rBl false))) : WpE B Γ (tChain r r' ta tb tc) k := fun σ H E Q hQ =>
  h σ H E _ fun ra x H1 h1 p1 e1 => h1 σ H1 (E.mono e1) _ fun rb y H2 h2 p2 e2 =>
    h2 H2 x y (Same.trans E.ex (Same.trans e1 e2)) (ra.st (Same.im e2) p1) p2 _ fun rr v H3 ⟨b, er, q1, q2⟩ p e => by
      subst er
      refine ⟨b, p, ?_⟩
      have e3 : Same H H3 := Same.trans e1 (Same.trans e2 e)
      cases b with
      | true => exact iteT (q1 rfl σ H3 (E.mono e3) _ fun rc z H4 h4 p4 e4 => h4 H4 y z (Same.trans E.ex (Same.trans e3 e4)) (rb.st (Same.im (Same.trans e e4)) p2) p4 Q fun r v H' q p e => hQ r v H' q p (Same.trans e3 (Same.trans e4 e)))
      | false => exact iteF (hQ _ _ H3 (q2 rfl) rfl e3)

/-! ### operations -/
theorem ot_I0 {g : Int → Int → V} {i j : Int} (q : k (rC (g i j))) : OpT B (rI0 g) (rInt i) (rInt j) k := fun H x y _ h1 h2 Q hQ => ⟨i, j, h1, h2, hQ _ _ H q rfl (Same.refl H)⟩
theorem ot_I {C : Int → Int → Prop} {g : Int → Int → V} {i j : Int} (c : C i j) (q : k (rC (g i j))) : OpT B (rI C g) (rInt i) (rInt j) k := fun H x y _ h1 h2 Q hQ => ⟨i, j, h1, h2, c, hQ _ _ H q rfl (Same.refl H)⟩
theorem ut_I {g : Int → V} {i : Int} (q : k (rC (g i))) : UnT B (rU g) (rInt i) k := fun H x _ h1 Q hQ => ⟨i, h1, hQ _ _ H q rfl (Same.refl H)⟩
theorem ot_eq {x y : V} (h : scal x y = true) (q : k (rBl (decide (x = y)))) : OpT B rEq (rC x) (rC y) k := fun H _ _ _ h1 h2 Q hQ => by
  cases h1
  cases h2
  exact ⟨h, hQ _ _ H q rfl (Same.refl H)⟩
theorem ot_ne {x y : V} (h : scal x y = true) (q : k (rBl (!decide (x = y)))) : OpT B rNe (rC x) (rC y) k := fun H _ _ _ h1 h2 Q hQ => by
  cases h1
  cases h2
  exact ⟨h, hQ _ _ H q rfl (Same.refl H)⟩
theorem ot_ixT {rs : List Rel} {i : Int} {r : Rel} (h : atI rs i = some r) (q : k r) : OpT B (rIxT B.K) (rTup B.K rs) (rInt i) k := fun H x y _ ⟨a, xs, ex, hs, hal⟩ h2 Q hQ => by
  subst ex
  cases h2
  have hl : xs.length = rs.length := (Paired.length hal).symm
  unfold atI at h
  obtain ⟨j, hj, hr⟩ := Option.bind_eq_some_iff.mp h
  obtain ⟨v, hv, pv⟩ := hal.get' hr
  refine ⟨a, xs, i, v, rfl, rfl, hs, ?_, hQ _ _ H q pv (Same.refl H)⟩
  unfold atI
  rw [hl, hj]
  exact hv
theorem ot_ixL {rs : List Rel} {i : Int} {r : Rel} (h : atI rs i = some r) (q : k r) : OpT B (rIxL B.K) (rLst rs) (rInt i) k := fun H x y _ ⟨a, o, xs, ex, hs, hal⟩ h2 Q hQ => by
  subst ex
  cases h2
  have hl : xs.length = rs.length := (Paired.length hal).symm
  unfold atI at h
  obtain ⟨j, hj, hr⟩ := Option.bind_eq_some_iff.mp h
  obtain ⟨v, hv, pv⟩ := hal.get' hr
  refine ⟨a, xs, i, v, rfl, rfl, .inl (.inr ⟨o, hs⟩), ?_, hQ _ _ H q pv (Same.refl H)⟩
  unfold atI
  rw [hl, hj]
  exact hv
/-- len -/
theorem ct_lenT {rs : List Rel} (q : k (rInt rs.length)) : CaT B (fun xs H Q => ∃ p ys, xs = [.ref p] ∧ (SqL B.K H p ys ∨ SqT B.K H p ys) ∧ Q (.int ys.length) H) [rTup B.K rs] k := fun H vs _ h Q hQ => by
  cases h with
  | cons h t =>
    cases t
    obtain ⟨a, xs, ex, hs, hal⟩ := h
    subst ex
    refine ⟨a, xs, rfl, .inr hs, ?_⟩
    rw [← Paired.length hal]
    exact hQ _ _ H q rfl (Same.refl H)
theorem ct_lenL {rs : List Rel} (q : k (rInt rs.length)) : CaT B (fun xs H Q => ∃ p ys, xs = [.ref p] ∧ (SqL B.K H p ys ∨ SqT B.K H p ys) ∧ Q (.int ys.length) H) [rLst rs] k := fun H vs _ h Q hQ => by
  cases h with
  | cons h t =>
    cases t
    obtain ⟨a, o, xs, ex, hs, hal⟩ := h
    subst ex
    refine ⟨a, xs, rfl, .inl (.inl (.inr ⟨o, hs⟩)), ?_⟩
    rw [← Paired.length hal]
    exact hQ _ _ H q rfl (Same.refl H)

/-! ### statements -/
theorem ws_ret {D : Ends} (h : WpE B Γ te fun r => ∀ v H', r.p v H' → Same B.H0 H' → D.rt v H') : WpS B D Γ (tRet te) := fun σ H E => h σ H E _ fun r v H' q p e => q v H' p (Same.trans E.ex e)
theorem ws_next {Γ' : Ctx} (h : ∀ σ H, Env B Γ σ H → D.nx σ H) : WpS B D Γ tNext := fun σ H E => h σ H E
theorem ws_asg {i : Nat} {tz : TS} (h : WpE B Γ te fun r => WpS B D (Γ.set i (.im r)) tz) : WpS B D Γ (tSeq (tAsg te (gName i)) tz) := fun σ H E =>
  h σ H E _ fun r v H' q p e => q _ _ ((E.mono e).set i p)
/-- the last statement of a block -/
theorem ws_asg1 {i : Nat} (h : WpE B Γ te fun r => ∀ σ H, Env B (Γ.set i (.im r)) σ H → D.nx σ H) : WpS B D Γ (tAsg te (gName i)) := fun σ H E =>
  h σ H E _ fun r v H' q p e => q _ _ ((E.mono e).set i p)
theorem ws_asgL {i : Nat} {tz : TS} (h : WpL B Γ te fun rs => WpS B D (Γ.set i (.ml rs)) tz) : WpS B D Γ (tSeq (tAsg te (gName i)) tz) := fun σ H E =>
  h σ H E _ fun rs p xs H' q hp e hx hal => q _ _ (E.setM i e hp ⟨p, xs, rfl, E.ex.free hp, hx, hal⟩)
theorem ws_asgX {i : Nat} {tz : TS} (h : WpX B Γ te fun ks => WpS B D (Γ.set i (.mx ks)) tz) : WpS B D Γ (tSeq (tAsg te (gName i)) tz) := fun σ H E =>
  h σ H E _ fun ks p es H' q hp e hx hal => q _ _ (E.setM i e hp ⟨p, es, rfl, E.ex.free hp, hx, hal⟩)
theorem ws_drop {tz : TS} (h : WpE B Γ te fun _ => WpS B D Γ tz) : WpS B D Γ (tSeq (tDrop te) tz) := fun σ H E =>
  h σ H E _ fun r v H' q p e => q _ _ (E.mono e)
theorem ws_if {tu tw tz : TS} (h : WpT B Γ t fun b => (b = true → WpS B { D with nx := tz D } Γ tu) ∧ (b = false → WpS B { D with nx := tz D } Γ tw)) : WpS B D Γ (tSeq (tIfS t tu tw) tz) := fun σ H E =>
  h σ H E _ fun b H1 hb e1 => by
    cases b with
    | true => exact iteT (hb.1 rfl σ H1 (E.mono e1))
    | false => exact iteF (hb.2 rfl σ H1 (E.mono e1))
theorem ws_if1 {tu tw : TS} (h : WpT B Γ t fun b => (b = true → WpS B D Γ tu) ∧ (b = false → WpS B D Γ tw)) : WpS B D Γ (tIfS t tu tw) := fun σ H E =>
  h σ H E _ fun b H1 hb e1 => by
    cases b with
    | true => exact iteT (hb.1 rfl σ H1 (E.mono e1))
    | false => exact iteF (hb.2 rfl σ H1 (E.mono e1))
/-- falling through to what comes behind -/
theorem ws_thru {tz : TS} (h : WpS B D Γ tz) : WpS B { D with nx := tz D } Γ tNext := fun σ H E => h σ H E
/-- with a word between: what follows is shown once -/
def tCut (t u : TS) : TS := fun D σ H => ∃ Mid : L2.St → Hp → Prop, t { D with nx := Mid } σ H ∧ ∀ σ' H', Mid σ' H' → u D σ' H'
theorem pss_cut {X : Cx} {st : Stmt} {rest : List Stmt} {t u : TS} (h1 : PS X st t) (h2 : PSs X rest u) : PSs X (st :: rest) (tCut t u) := by
  refine ⟨fun pins s σ H D I h => ?_⟩
  obtain ⟨Mid, hm, hu⟩ := h
  refine wpAny_execs_cons (thn (h1.run pins s σ H { D with nx := Mid } I hm) fun f s1 q => ?_)
  cases f with
  | next =>
    obtain ⟨σ', H', I', q⟩ := q
    exact h2.run pins s1 σ' H' D I' (hu σ' H' q)
  | ret v => exact q
  | brk => exact q
  | cont => exact q
def EnvP (B : Bd) (Γ : Ctx) : L2.St → Hp → Prop := fun σ H => Env B Γ σ H
theorem ws_cut (Γ' : Ctx) {t u : TS} (h1 : WpS B { D with nx := EnvP B Γ' } Γ t) (h2 : WpS B D Γ' u) : WpS B D Γ (tCut t u) := fun σ H E => ⟨EnvP B Γ', h1 σ H E, fun σ' H' E' => h2 σ' H' E'⟩
/-- ... the word not known yet but some relation in it -/
theorem ws_cutEx {α : Type} (Γ' : α → Ctx) {t u : TS} (h1 : WpS B { D with nx := fun σ H => ∃ a, Env B (Γ' a) σ H } Γ t) (h2 : ∀ a, WpS B D (Γ' a) u) : WpS B D Γ (tCut t u) := fun σ H E =>
  ⟨_, h1 σ H E, fun σ' H' ⟨a, E'⟩ => h2 a σ' H' E'⟩
theorem ws_nextP : WpS B { D with nx := EnvP B Γ } Γ tNext := fun σ H E => E

/-! ### freezing -/
def Frzs (u : HO) : Prop := Mut (some u)
/-- what an expression has made is not changed any more -/
def tFrz (te : TE) : TE := fun σ H Q => te σ H fun v H1 => ∃ a u, v = .ref a ∧ H1 a = some u ∧ Mut (some u) ∧ ∀ o, Q v (upd H1 a (.frz o u))
theorem pe_frz {X : Cx} {e : Expr} {te : TE} (h : PE X e te) : PE X e (tFrz te) := by
  refine ⟨fun pins s σ H Q I hw => ?_⟩
  refine thn (h.run pins s σ H _ I hw) fun v s1 ⟨x, H1, I1, r, a, u, ex, ha, mu, q⟩ => ?_
  obtain ⟨o, I2⟩ := I1.lock ha mu
  exact ⟨x, _, I2, r, q o⟩
theorem we_frzL (h : WpL B Γ te fun rs => k (rLst rs)) : WpE B Γ (tFrz te) k := fun σ H E Q hQ =>
  h σ H E _ fun rs p xs H' q hp e hx hal => ⟨p, .lst xs, rfl, hx, trivial, fun o => hQ _ _ _ q ⟨p, o, xs, rfl, upd_same, hal.st (Im.upd hx lst_c)⟩ (Same.put e hp)⟩
theorem we_frzX (h : WpX B Γ te fun ks => k (rDct B.P B.w B.K ks)) : WpE B Γ (tFrz te) k := fun σ H E Q hQ =>
  h σ H E _ fun ks p es H' q hp e hx hal => ⟨p, DXO B.P B.w p es, rfl, hx, trivial, fun o => hQ _ _ _ q ⟨p, o, es, rfl, upd_same, hal.st (Im.upd hx dx_c)⟩ (Same.put e hp)⟩
theorem we_frzD (h : WpD B Γ te fun ks => k (rDic ks)) : WpE B Γ (tFrz te) k := fun σ H E Q hQ =>
  h σ H E _ fun ks p es H' q hp e hx hal => ⟨p, .dK es, rfl, hx, trivial, fun o => hQ _ _ _ q ⟨p, o, es, rfl, upd_same, Paired.mapP hal fun _ _ ⟨z1, z2⟩ => ⟨z1, Rel.st _ (Im.upd hx dk_c) z2⟩⟩ (Same.put e hp)⟩
/-- a slot's thing is not changed any more -/
def tFrzS (i : Nat) (t : TS) : TS := fun D σ H => ∃ a u, σ[i]? = some (some (.ref a)) ∧ H a = some u ∧ Mut (some u) ∧ ∀ o, t D σ (upd H a (.frz o u))
theorem pss_frz {X : Cx} {sts : List Stmt} {t : TS} (i : Nat) (h : PSs X sts t) : PSs X sts (tFrzS i t) := by
  refine ⟨fun pins s σ H D I hw => ?_⟩
  obtain ⟨a, u, _, ha, mu, q⟩ := hw
  obtain ⟨o, I2⟩ := I.lock ha mu
  exact h.run pins s σ _ D I2 (q o)
theorem ws_frzL {i : Nat} {rs : List Rel} {t : TS} (hi : Γ[i]? = some (.ml rs)) (h : WpS B D (Γ.set i (.im (rLst rs))) t) : WpS B D Γ (tFrzS i t) := fun σ H E => by
  obtain ⟨ov, h1, l, xs, rfl, h0, hl, hal⟩ := E.ty i _ hi
  refine ⟨l, .lst xs, h1, hl, trivial, fun o => h _ _ (E.chg hi rfl h1 hl lst_c h0 ⟨.ref l, rfl, l, o, xs, rfl, upd_same, hal.st (Im.upd hl lst_c)⟩)⟩
theorem ws_frzX {i : Nat} {ks : List (List Int × Rel)} {t : TS} (hi : Γ[i]? = some (.mx ks)) (h : WpS B D (Γ.set i (.im (rDct B.P B.w B.K ks))) t) : WpS B D Γ (tFrzS i t) := fun σ H E => by
  obtain ⟨ov, h1, l, xs, rfl, h0, hl, hal⟩ := E.ty i _ hi
  refine ⟨l, _, h1, hl, trivial, fun o => h _ _ (E.chg hi rfl h1 hl dx_c h0 ⟨.ref l, rfl, l, o, xs, rfl, upd_same, hal.st (Im.upd hl dx_c)⟩)⟩

/-! ### a list that grows -/
theorem ws_app {i : Nat} {rs : List Rel} {tz : TS} (hi : Γ[i]? = some (.ml rs)) (h : WpE B Γ te fun r => rs.length < sizeLine ∧ WpS B D (Γ.set i (.ml (rs ++ [r]))) tz) :
    WpS B D Γ (tSeq (tDrop (tBM B.K "list" rAppend (tVar i) (tCons te tNil))) tz) := fun σ H E => by
  obtain ⟨ov, h1, l, xs, rfl, h0, hl, hal⟩ := E.ty i _ hi
  refine ⟨_, h1, .inl ⟨rfl, _, .inl (.inl hl)⟩, ?_⟩
  refine h σ H E _ fun r v H1 ⟨hz, q⟩ p e => ?_
  have hl1 := e _ _ hl
  refine ⟨l, xs, v, rfl, rfl, hl1, by rw [← Paired.length hal]; exact hz, ?_⟩
  have hal1 := hal.st (Same.im e)
  exact q _ _ ((E.mono e).chg hi rfl h1 hl1 lst_c h0 ⟨l, _, rfl, h0, upd_same, Al.st (Im.upd hl1 lst_c) (Paired.snoc hal1 p)⟩)
end
end BX
set_option Elab.async false
set_option linter.all false
set_option maxRecDepth 100000
/-! BXc: loops, targets, comprehensions. -/
namespace BX
open PySem PySem.Spec PyProof.Rows L2

/-! ### targets -/
/-- a target takes a thing of the relation r; only the slots js change -/
def WpG (B : Bd) (Γ : Ctx) (g : TG) (r : Rel) (js : List Nat) (Γ' : Ctx) : Prop :=
  ∀ σ H v, Env B Γ σ H → r.p v H → ∀ Q : L2.St → Hp → Prop, (∀ σ' H', Env B Γ' σ' H' → Same H H' → (∀ i, i ∉ js → σ'[i]? = σ[i]?) → σ'.length = σ.length → Q σ' H') → g v σ H Q
section
variable {B : Bd} {Γ Γ' Γ'' : Ctx} {D : Ends}
theorem wg_name {r : Rel} {j : Nat} : WpG B Γ (gName j) r [j] (Γ.set j (.im r)) := fun σ H v E p Q q =>
  q _ _ (E.set j p) (Same.refl H) (fun i hi => List.getElem?_set_ne (fun z => hi (by simp [z]))) (by simp)
def WpGs (B : Bd) (Γ : Ctx) (g : TGs) (rs : List Rel) (js : List Nat) (Γ' : Ctx) : Prop :=
  ∀ σ H vs, Env B Γ σ H → Al H rs vs → ∀ Q : L2.St → Hp → Prop, (∀ σ' H', Env B Γ' σ' H' → Same H H' → (∀ i, i ∉ js → σ'[i]? = σ[i]?) → σ'.length = σ.length → Q σ' H') → g vs σ H Q
theorem wgs_nil : WpGs B Γ gNil [] [] Γ := fun σ H vs E p Q q => by
  cases p
  exact ⟨rfl, q _ _ E (Same.refl H) (fun _ _ => rfl) rfl⟩
theorem wgs_cons {g : TG} {gs : TGs} {r : Rel} {rs : List Rel} {js ks : List Nat} (h1 : WpG B Γ g r js Γ') (h2 : WpGs B Γ' gs rs ks Γ'') : WpGs B Γ (gCons g gs) (r :: rs) (js ++ ks) Γ'' := fun σ H vs E p Q q => by
  cases p with
  | cons p t =>
    refine ⟨_, _, rfl, h1 σ H _ E p _ fun σ' H' E' e hj hl => ?_⟩
    exact h2 σ' H' _ E' (Al.st (Same.im e) t) _ fun σ'' H'' E'' e' hk hl' => q _ _ E'' (Same.trans e e') (fun i hi => (hk i fun z => hi (List.mem_append_right _ z)).trans (hj i fun z => hi (List.mem_append_left _ z))) (hl'.trans hl)
theorem wg_tup {gs : TGs} {rs : List Rel} {js : List Nat} {n : Nat} (hn : rs.length = n) (h : WpGs B Γ gs rs js Γ') : WpG B Γ (gTup B.K n gs) (rTup B.K rs) js Γ' := fun σ H v E p Q q => by
  obtain ⟨a, xs, rfl, hs, hal⟩ := p
  exact ⟨a, xs, rfl, hs, by rw [← Paired.length hal]; exact hn, h σ H xs E hal Q q⟩

/-! ### what is walked -/
/-- n turns; the i-th gives a thing of the relation rs i -/
def WpI (B : Bd) (Γ : Ctx) (wi : TI) (k : Nat → (Nat → Rel) → Prop) : Prop :=
  ∀ σ H, Env B Γ σ H → ∀ R : It → Hp → Prop, (∀ J n rs (G : Hp → Prop) (Y : Nat → Hp → V → Hp → Prop) H', k n rs → Same H H' → Walk J n G Y → G H' → (∀ H1 H2, Im H1 H2 → G H1 → G H2) → (∀ i H1 x H2, i < n → G H1 → Y i H1 x H2 → Same H1 H2 ∧ (rs i).p x H2) → R J H') → wi σ H R
theorem wi_tup {te : TE} {k : Nat → (Nat → Rel) → Prop} (h : WpE B Γ te fun r => ∃ rs, r = rTup B.K rs ∧ k rs.length fun i => rs.getD i (rC .non)) : WpI B Γ (iTup B.K te) k := fun σ H E R hR =>
  h σ H E _ fun r v H1 ⟨rs, er, hk⟩ p e => by
    subst er
    obtain ⟨a, xs, rfl, hs, hal⟩ := p
    refine ⟨a, rfl, ⟨xs, hs⟩, ?_⟩
    have hl : xs.length = rs.length := (Paired.length hal).symm
    have w : Walk (Itt B.K a) rs.length (fun H => SqT B.K H a xs ∧ Al H rs xs) (YAt xs) := by
      rw [← hl]
      exact walk_tup.mono (fun _ z => z.1) fun _ _ _ _ _ _ y => y
    refine hR _ _ _ _ _ H1 hk e w ⟨hs, hal⟩ (fun H1 H2 im z => ⟨sqT_im im z.1, z.2.st im⟩) fun i H1 x H2 hi z y => ?_
    obtain ⟨rfl, hx⟩ := y
    obtain ⟨r, hr, pr⟩ := z.2.get hx
    refine ⟨Same.refl _, ?_⟩
    rw [List.getD_eq_getElem?_getD, hr]
    exact pr
theorem wi_list {te : TE} {k : Nat → (Nat → Rel) → Prop} (h : WpE B Γ te fun r => ∃ rs, r = rLst rs ∧ k rs.length fun i => rs.getD i (rC .non)) : WpI B Γ (iList B.K te) k := fun σ H E R hR =>
  h σ H E _ fun r v H1 ⟨rs, er, hk⟩ p e => by
    subst er
    obtain ⟨a, o, xs, rfl, hs, hal⟩ := p
    refine ⟨a, rfl, ⟨xs, .inl (.inr ⟨o, hs⟩)⟩, ?_⟩
    have hl : xs.length = rs.length := (Paired.length hal).symm
    have w : Walk (Itl B.K a) rs.length (fun H => H a = some (.frz o (.lst xs)) ∧ Al H rs xs) (YAt xs) := by
      rw [← hl]
      exact walk_list.mono (fun _ z => .inl (.inr ⟨o, z.1⟩)) fun _ _ _ _ _ _ y => y
    refine hR _ _ _ _ _ H1 hk e w ⟨hs, hal⟩ (fun H1 H2 im z => ⟨im _ _ frz_nc z.1, z.2.st im⟩) fun i H1 x H2 hi z y => ?_
    obtain ⟨rfl, hx⟩ := y
    obtain ⟨r, hr, pr⟩ := z.2.get hx
    refine ⟨Same.refl _, ?_⟩
    rw [List.getD_eq_getElem?_getD, hr]
    exact pr
theorem wi_rng1 {ta : TA} {k : Nat → (Nat → Rel) → Prop} (h : WpA B Γ ta fun rs => ∃ j : Int, rs = [rInt j] ∧ -(2 ^ 62) ≤ j ∧ j < 2 ^ 62 ∧ k j.toNat fun i => rInt (i : Int)) : WpI B Γ (iRng1 ta) k := fun σ H E R hR =>
  h σ H E _ fun rs vs H1 ⟨j, er, h1, h2, hk⟩ p e => by
    subst er
    cases p with
    | cons p t =>
      cases t
      cases p
      refine ⟨j, rfl, h1, h2, hR _ _ _ _ _ H1 hk e walk_range trivial (fun _ _ _ _ => trivial) fun i H1 x H2 hi z y => ?_⟩
      obtain ⟨rfl, rfl⟩ := y
      exact ⟨Same.refl _, show V.int (0 + (i : Int)) = V.int (i : Int) by rw [Int.zero_add]⟩
theorem wi_rng2 {ta : TA} {k : Nat → (Nat → Rel) → Prop} (h : WpA B Γ ta fun rs => ∃ a j : Int, rs = [rInt a, rInt j] ∧ (-(2 ^ 62) ≤ a ∧ a < 2 ^ 62 ∧ -(2 ^ 62) ≤ j ∧ j < 2 ^ 62) ∧ k (j - a).toNat fun i => rInt (a + (i : Int))) : WpI B Γ (iRng2 ta) k := fun σ H E R hR =>
  h σ H E _ fun rs vs H1 ⟨a, j, er, h1, hk⟩ p e => by
    subst er
    cases p with
    | cons p t =>
      cases t with
      | cons p' t =>
        cases t
        cases p
        cases p'
        refine ⟨a, j, rfl, h1, hR _ _ _ _ _ H1 hk e walk_range trivial (fun _ _ _ _ => trivial) fun i H1 x H2 hi z y => ?_⟩
        obtain ⟨rfl, rfl⟩ := y
        exact ⟨Same.refl _, rfl⟩
theorem wi_enum {ta : TA} {k : Nat → (Nat → Rel) → Prop} (h : WpA B Γ ta fun rs' => ∃ rs, rs' = [rLst rs] ∧ k rs.length fun i => rTup B.K [rInt (i : Int), rs.getD i (rC .non)]) : WpI B Γ (iEnum B.K ta) k := fun σ H E R hR =>
  h σ H E _ fun rs' vs H1 ⟨rs, er, hk⟩ p e => by
    subst er
    cases p with
    | cons p t =>
      cases t
      obtain ⟨a, o, xs, rfl, hs, hal⟩ := p
      refine ⟨a, xs, rfl, .inl (.inr ⟨o, hs⟩), ?_⟩
      have hl : xs.length = rs.length := (Paired.length hal).symm
      have w : Walk (Ite B.K a) rs.length (fun H => H a = some (.frz o (.lst xs)) ∧ Al H rs xs) (YPair (fun i => some (.int (i : Nat))) (fun i => xs[i]?)) := by
        rw [← hl]
        exact walk_enum.mono (fun _ z => .inl (.inr ⟨o, z.1⟩)) fun _ _ _ _ _ _ y => y
      refine hR _ _ _ _ _ H1 hk e w ⟨hs, hal⟩ (fun H1 H2 im z => ⟨im _ _ frz_nc z.1, z.2.st im⟩) fun i H1 x H2 hi z y => ?_
      obtain ⟨T, x1, x2, rfl, hT, rfl, h1, h2⟩ := y
      cases h1
      obtain ⟨r, hr, pr⟩ := z.2.get h2
      refine ⟨Same.new hT, T, _, rfl, .inl (.inl upd_same), .cons rfl (.cons ?_ .nil)⟩
      rw [List.getD_eq_getElem?_getD, hr]
      exact r.st (Same.im (Same.new hT)) pr
theorem wi_zip {ta : TA} {k : Nat → (Nat → Rel) → Prop} (h : WpA B Γ ta fun rs' => ∃ rs ss, rs' = [rLst rs, rLst ss] ∧ k (min rs.length ss.length) fun i => rTup B.K [rs.getD i (rC .non), ss.getD i (rC .non)]) : WpI B Γ (iZip B.K ta) k := fun σ H E R hR =>
  h σ H E _ fun rs' vs H1 ⟨rs, ss, er, hk⟩ p e => by
    subst er
    cases p with
    | cons p t =>
      cases t with
      | cons p' t =>
        cases t
        obtain ⟨a, o, xs, rfl, hs, hal⟩ := p
        obtain ⟨b, o', ys, rfl, hs', hal'⟩ := p'
        refine ⟨a, b, xs, ys, rfl, .inl (.inr ⟨o, hs⟩), .inl (.inr ⟨o', hs'⟩), ?_⟩
        have w : Walk (Itz B.K a b) (min rs.length ss.length) (fun H => (H a = some (.frz o (.lst xs)) ∧ Al H rs xs) ∧ H b = some (.frz o' (.lst ys)) ∧ Al H ss ys) (YPair (fun i => xs[i]?) (fun i => ys[i]?)) :=
          (walk_zip (by rw [Paired.length hal, Paired.length hal'])).mono (fun _ z => ⟨.inl (.inr ⟨o, z.1.1⟩), .inl (.inr ⟨o', z.2.1⟩)⟩) fun _ _ _ _ _ _ y => y
        refine hR _ _ _ _ _ H1 hk e w ⟨⟨hs, hal⟩, hs', hal'⟩ (fun H1 H2 im z => ⟨⟨im _ _ frz_nc z.1.1, z.1.2.st im⟩, im _ _ frz_nc z.2.1, z.2.2.st im⟩) fun i H1 x H2 hi z y => ?_
        obtain ⟨T, x1, x2, rfl, hT, rfl, h1, h2⟩ := y
        obtain ⟨r, hr, pr⟩ := z.1.2.get h1
        obtain ⟨r', hr', pr'⟩ := z.2.2.get h2
        refine ⟨Same.new hT, T, _, rfl, .inl (.inl upd_same), .cons ?_ (.cons ?_ .nil)⟩
        · rw [List.getD_eq_getElem?_getD, hr]
          exact r.st (Same.im (Same.new hT)) pr
        · rw [List.getD_eq_getElem?_getD, hr']
          exact r'.st (Same.im (Same.new hT)) pr'

/-! ### for -/
def EnvS (B : Bd) (S : Ctx → Prop) : L2.St → Hp → Prop := fun σ H => ∃ Γ, S Γ ∧ Env B Γ σ H
theorem ws_nextS {S : Ctx → Prop} (Γ' : Ctx) (hw : Weak Γ Γ') (hs : S Γ') : WpS B { D with nx := EnvS B S } Γ tNext := fun σ H E => ⟨Γ', hs, E.wk hw⟩
/-- S i: what the slots may hold behind i turns -/
theorem ws_for {wi : TI} {g : TG} {tb tz : TS} (h : WpI B Γ wi fun n rs => ∃ S : Nat → Ctx → Prop, S 0 Γ ∧
    (∀ i, i < n → ∀ Γ1, S i Γ1 → ∀ G st, ∃ Γ2 js, WpG (B.more G st) Γ1 g (rs i) js Γ2 ∧
      WpS (B.more G st) { D with nx := EnvS (B.more G st) (S (i + 1)), ct := EnvS (B.more G st) (S (i + 1)), bk := tz D } Γ2 tb) ∧
    ∀ Γ1, S n Γ1 → WpS B D Γ1 tz) : WpS B D Γ (tSeq (tFor wi g tb) tz) := fun σ H E => by
  refine h σ H E _ fun J n rs G Y H1 ⟨S, h0, hs, hz⟩ e w hG im hY => ?_
  refine for_it w (fun i σ H => EnvS (B.more G im) (S i) σ H) ⟨Γ, h0, (E.mono e).more hG⟩ (fun i σ H _ ⟨Γ1, _, p⟩ => p.fx.2) (fun i x σ' H2 H3 hi ⟨Γ1, p1, p2⟩ y => ?_) fun σ' H2 ⟨Γ1, p1, p2⟩ => hz Γ1 p1 σ' H2 p2.less
  obtain ⟨e1, px⟩ := hY i H2 x H3 hi p2.fx.2 y
  obtain ⟨Γ2, js, hg, hb⟩ := hs i hi Γ1 p1 G im
  exact hg σ' H3 x (p2.mono e1) px _ fun σ2 H4 E2 _ _ _ => hb σ2 H4 E2
/-- while: S m: what the slots may hold where m turns at most are left -/
theorem ws_while {tt : TT} {tb tz : TS} (S : Nat → Ctx → Prop) (m0 : Nat) (h0 : S m0 Γ)
    (h : ∀ m Γ1, S m Γ1 → WpT B Γ1 tt fun b => (b = true → WpS B { D with nx := EnvS B (fun Γ' => ∃ m', m' < m ∧ S m' Γ'), ct := EnvS B (fun Γ' => ∃ m', m' < m ∧ S m' Γ'), bk := tz D } Γ1 tb) ∧ (b = false → WpS B D Γ1 tz)) :
    WpS B D Γ (tSeq (tWhile tt tb) tz) := fun σ H E => by
  refine ⟨fun m σ H => EnvS B (S m) σ H, ⟨m0, Γ, h0, E⟩, fun m σ1 H1 ⟨Γ1, s1, E1⟩ => ?_⟩
  refine h m Γ1 s1 σ1 H1 E1 _ fun b H2 ⟨q1, q2⟩ e => ?_
  cases b with
  | true => exact iteT ⟨_, fun σ' H' ⟨Γ', ⟨m', hm, s'⟩, E'⟩ => ⟨m', hm, Γ', s', E'⟩, q1 rfl σ1 H2 (E1.mono e)⟩
  | false => exact iteF (q2 rfl σ1 H2 (E1.mono e))

/-! ### comprehensions -/
theorem wt_yes {kb : Bool → Prop} (h : kb true) : WpT B Γ tYes kb := fun σ H E Q hQ => hQ true H h (Same.refl H)
/-- A i es: what may be made behind i turns -/
theorem wl_lc {wi : TI} {g : TG} {tt : TT} {te : TE} {vs : List Nat} {kl : List Rel → Prop} (h : WpI B Γ wi fun n rs => ∃ A : Nat → List Rel → Prop, A 0 [] ∧
    (∀ i, i < n → ∀ es, A i es → ∀ G st, ∃ Γ2 js, (∀ j, j ∈ js → j ∈ vs) ∧ WpG (B.more G st) (wipeC Γ vs) g (rs i) js Γ2 ∧
      WpT (B.more G st) Γ2 tt fun b => (b = true → WpE (B.more G st) Γ2 te fun r => es.length < sizeLine ∧ A (i + 1) (es ++ [r])) ∧ (b = false → A (i + 1) es)) ∧
    ∀ es, A n es → kl es) : WpL B Γ (tLc wi g tt te vs) kl := fun σ H E Q hQ => by
  refine h σ H E _ fun J n rs G Y H1 ⟨A, h0, hs, hz⟩ e w hG im hY => ?_
  intro Dl hD
  refine lc_it (Qd := fun H => Q (.ref Dl) H) w (fun i H2 => ∃ es xs, A i es ∧ H2 Dl = some (.lst xs) ∧ Al H2 es xs ∧ Env (B.more G im) (wipeC Γ vs) (wipe σ vs) H2 ∧ Same H1 H2) ?_ (fun i H2 _ ⟨_, _, _, _, _, p, _⟩ => p.fx.2) ?_ ?_
  · have e1 : Same H1 (upd H1 Dl (.lst [])) := Same.new hD
    exact ⟨[], [], h0, upd_same, .nil, (((E.mono e).mono e1).wipe vs).more (im _ _ (Same.im e1) hG), e1⟩
  · rintro i x H2 H3 hi ⟨es, xs, a, hl, hal, p, s1⟩ y
    obtain ⟨e1, px⟩ := hY i H2 x H3 hi p.fx.2 y
    obtain ⟨Γ2, js, hj, hg, ht⟩ := hs i hi es a G im
    refine hg _ H3 x (p.mono e1) px _ fun σ2 H4 E2 e2 hk hlen => ⟨?_, ?_⟩
    · refine (wipe_of hlen fun j hjn => hk j fun z => hjn (hj j z)).trans (wipe_of (wipe_length σ vs) fun j hjn => wipe_out hjn)
    · refine ht σ2 H4 E2 _ fun b H5 ⟨q1, q2⟩ e3 => ?_
      have e13 : Same H2 H5 := Same.trans e1 (Same.trans e2 e3)
      cases b with
      | true =>
        refine iteT (q1 rfl σ2 H5 (E2.mono e3) _ fun r v H6 ⟨hz', a'⟩ pv e4 => ?_)
        have e14 : Same H2 H6 := Same.trans e13 e4
        have hl6 := e14 _ _ hl
        refine ⟨xs, hl6, by rw [← Paired.length hal]; exact hz', es ++ [r], xs ++ [v], a', upd_same, ?_, ?_, ?_⟩
        · exact Al.st (Im.upd hl6 lst_c) (Paired.snoc (Al.st (Same.im e14) hal) pv)
        · have p6 := p.mono e14
          have h0n : B.H0 Dl = none := by
            have z : Same B.H0 H1 := Same.trans E.ex e
            exact Same.free z hD
          refine ⟨p6.len, Same.put p6.ex h0n, (B.more G im).fs _ _ (Im.upd hl6 lst_c) p6.fx, fun j t ej => ?_, p6.dis⟩
          obtain ⟨ov, z1, z2⟩ := p6.ty j t ej
          have old : Env B (wipeC Γ vs) (wipe σ vs) H1 := (E.mono e).wipe vs
          obtain ⟨ov', y1, y2⟩ := old.ty j t ej
          rw [z1] at y1
          cases y1
          refine ⟨ov, z1, ?_⟩
          cases t with
          | no => trivial
          | im r => obtain ⟨v, c1, c2⟩ := z2; exact ⟨v, c1, r.st (Im.upd hl6 lst_c) c2⟩
          | ml rs =>
            obtain ⟨l, ys, c1, c2, c3, c4⟩ := z2
            obtain ⟨l', ys', d1, d2, d3, d4⟩ := y2
            subst c1
            cases d1
            refine ⟨l, ys, rfl, c2, ?_, c4.st (Im.upd hl6 lst_c)⟩
            rw [upd_ne (fun z => by rw [z, hD] at d3; cases d3)]
            exact c3
          | mx ks =>
            obtain ⟨l, ys, c1, c2, c3, c4⟩ := z2
            obtain ⟨l', ys', d1, d2, d3, d4⟩ := y2
            subst c1
            cases d1
            refine ⟨l, ys, rfl, c2, ?_, c4.st (Im.upd hl6 lst_c)⟩
            rw [upd_ne (fun z => by rw [z, hD] at d3; cases d3)]
            exact c3
        · exact Same.put (Same.trans s1 e14) hD
      | false => exact iteF ⟨es, xs, q2 rfl, e13 _ _ hl, hal.st (Same.im e13), p.mono e13, Same.trans s1 e13⟩
  · rintro H2 ⟨es, xs, a, hl, hal, p, s1⟩
    exact hQ es Dl xs H2 (hz es a) (Same.free e hD) (Same.trans e s1) hl hal
end
end BX
set_option Elab.async false
set_option linter.all false
set_option maxRecDepth 100000
set_option maxHeartbeats 1000000
/-! BXd: dicts whose keys are tuples (the keys' own tuples of the body or of the module). -/
namespace BX
open PySem PySem.Spec PyProof.Rows L2

section
variable {κ α : Type} [DecidableEq κ]
def getM (m : List (κ × α)) (k : κ) : Option α := (m.find? fun e => decide (e.1 = k)).map (·.2)
def putM (m : List (κ × α)) (k : κ) (a : α) : List (κ × α) := if (getM m k).isSome then m.map (fun e => if e.1 = k then (e.1, a) else e) else m ++ [(k, a)]
theorem getM_nil (k : κ) : getM ([] : List (κ × α)) k = none := rfl
theorem getM_cons (e : κ × α) (m : List (κ × α)) (k : κ) : getM (e :: m) k = if e.1 = k then some e.2 else getM m k := by
  unfold getM
  rw [List.find?_cons]
  by_cases h : e.1 = k <;> simp [h]
end
/-- the entry is replaced (the key's own tuple stays), or comes behind -/
def putE (es : List DEnt) (k : List Key) (b : Addr) (v : V) : List DEnt :=
  if (getM es k).isSome then es.map (fun e => if e.1 = k then (e.1, e.2.1, v) else e) else es ++ [(k, b, v)]

/-- es and xs: the same entries -/
abbrev EX : List DEnt → List (List Key × Addr × Value) → Prop := Paired fun p q => p.1 = q.1 ∧ p.2.1 = q.2.1 ∧ RelV p.2.2 q.2.2
theorem EX.val {es : List DEnt} {xs : List (List Key × Addr × Value)} (r : EX es xs) (k : List Key) : RelO ((getM es k).map (·.2)) ((atKey xs k).map (·.2)) := by
  induction r with
  | nil => exact True.intro
  | @cons p q ps qs h t ih =>
    obtain ⟨h1, _, h2⟩ := h
    rw [getM_cons]
    by_cases e : p.1 = k
    · have e' : q.1 = k := h1.symm.trans e
      have b : atKey (q :: qs) k = some q.2 := by simp [atKey, List.find?_cons, e']
      rw [if_pos e, b]; exact h2
    · have e' : ¬ q.1 = k := fun z => e (h1.trans z)
      have b : atKey (q :: qs) k = atKey qs k := by simp [atKey, List.find?_cons, e']
      rw [if_neg e, b]; exact ih
theorem EX.some {es : List DEnt} {xs : List (List Key × Addr × Value)} (r : EX es xs) (k : List Key) : (getM es k).isSome = (atKey xs k).isSome := by
  have q := (r.val k).isSome_eq
  rw [Option.isSome_map, Option.isSome_map] at q
  exact q
theorem EX.repl {es : List DEnt} {xs : List (List Key × Addr × Value)} (r : EX es xs) (k : List Key) {y : V} {u : Value} (ry : RelV y u) :
    EX (es.map fun e => if e.1 = k then (e.1, e.2.1, y) else e) (xs.map (putAt k u)) := by
  induction r with
  | nil => exact .nil
  | @cons p q ps qs h t ih =>
    rw [List.map_cons, List.map_cons]
    refine .cons ?_ ih
    obtain ⟨h1, h2, h3⟩ := h
    unfold putAt
    by_cases e : p.1 = k
    · rw [if_pos e, if_pos (h1.symm.trans e)]; exact ⟨h1, h2, ry⟩
    · rw [if_neg e, if_neg (fun z => e (h1.trans z))]; exact ⟨h1, h2, h3⟩
theorem EX.put {es : List DEnt} {xs : List (List Key × Addr × Value)} (r : EX es xs) (k : List Key) {b : Addr} {y : V} {u : Value} (ry : RelV y u) :
    EX (putE es k b y) (storedH xs k b u) := by
  unfold putE storedH
  rw [r.some k]
  by_cases q : (atKey xs k).isSome = true
  · rw [if_pos q, if_pos q]; exact r.repl k ry
  · rw [if_neg q, if_neg q]; exact Paired.snoc r ⟨rfl, rfl, ry⟩
theorem putE_len (es : List DEnt) (k : List Key) (b : Addr) (v : V) : (putE es k b v).length ≤ es.length + 1 := by
  unfold putE
  split
  · rw [List.length_map]; omega
  · rw [List.length_append]; simp

section
variable {P : Program} {w : World} {K : PySem.W.Frag} {H : Hp} {h : Heap} {a b : Addr}
/-- a tuple of ints and texts is a key -/
theorem keyK {ks : List Key} (ok : HOk P w H h) (X : K.In h) (e : SqT K H a (ks.map kV)) : (tupleKind (mixKind P w)).is h ks a := by
  rcases e with (e | ⟨o, e⟩) | ⟨o, its, n, h1, h2, h3, h4, h5⟩
  · exact key_of ok e
  · obtain ⟨e1, z, its, r, ob, h1, h2, n, h3⟩ := (show ObjOk P w H h a (.frz o (.tup (ks.map kV))) from ok a _ e)
    exact ⟨ob, its.toArray, n, h1, h2, h3, by simpa using items_are r⟩
  · exact ⟨o, its, n, X _ _ h1, h2, h3, items_are h5⟩
abbrev KeysAt (K : PySem.W.Frag) (H : Hp) (es : List DEnt) : Prop := ∀ e ∈ es, SqT K H e.2.1 (e.1.map kV)
theorem AlX.keys {ks : List (List Int × Rel)} {es : List DEnt} (h : AlX K H ks es) : KeysAt K H es := by
  induction h with
  | nil => intro e he; cases he
  | @cons p q l1 l2 h t ih =>
    intro e he
    rcases List.mem_cons.mp he with z | z
    · subst z; rw [← h.1, ik_kV]; exact h.2.1
    · exact ih e z
theorem dx_rd {es : List DEnt} (ok : HOk P w H h) (X : K.In h) (e : Rd H a (DXO P w a es)) (hk : KeysAt K H es) : es.length ≤ sizeLine ∧ (a == sysModules) = false ∧
    ∃ xs, EX es xs ∧ h.DictOfH (tupleKind (mixKind P w)) a xs := by
  have x : ObjOk P w H h a (.ext (dxφ P w a es)) := e.ok ok
  obtain ⟨⟨z, y, xs, r, o, os, ep, h1, h2, h3, h4, h5⟩, _⟩ := x
  refine ⟨z, y, xs, r, o, os, ep, h1, h2, h3, h4, fun x hx => ?_, h5⟩
  have all : ∀ {l : List DEnt} {m : List (List Key × Addr × Value)}, EX l m → (∀ e ∈ l, SqT K H e.2.1 (e.1.map kV)) → ∀ x ∈ m, (tupleKind (mixKind P w)).is h x.1 x.2.1 := by
    intro l m q
    induction q with
    | nil => intro _ x hx; exact nomatch hx
    | @cons p q ps qs hq t ih =>
      intro hl x hx
      rcases List.mem_cons.mp hx with e | hx
      · subst e
        rw [← hq.1, ← hq.2.1]
        exact keyK ok X (hl p (List.mem_cons_self ..))
      · exact ih (fun e he => hl e (List.mem_cons_of_mem _ he)) x hx
  exact all r hk x hx
theorem dx_ok {H' : Hp} {es : List DEnt} {xs : List (List Key × Addr × Value)} (z : es.length ≤ sizeLine) (hd : (a == sysModules) = false) (r : EX es xs) (dd : h.DictOfH (tupleKind (mixKind P w)) a xs) : ObjOk P w H' h a (DXO P w a es) := by
  obtain ⟨o, os, ep, h1, h2, h3, h4, _, h5⟩ := dd
  refine ⟨⟨z, hd, xs, r, o, os, ep, h1, h2, h3, h4, h5⟩, ⟨o, h1⟩, fun g1 g2 q k => ?_⟩
  obtain ⟨z', hd', xs', r', o', os', ep', k1, k2, k3, k4, k5⟩ := q
  exact ⟨z', hd', xs', r', o', os', ep', k _ k1, k2, k3, k4, k5⟩
end

/-! ### d[y], y in d, d[y] = v at the level of the machine -/
section
variable {X : Cx} {pins : List (Addr × Obj)} {σ : L2.St} {H : Hp} {s : Shared} {a b : Addr} {v : V} {u r : Value} {es : List DEnt} {k : List Key} {A : Around} {E : Value → Shared → Prop}
abbrev RdX (X : Cx) (H : Hp) (a : Addr) (es : List DEnt) : Prop := Rd H a (DXO X.prog X.w a es) ∧ KeysAt X.K H es
theorem x_getItem {Q : Value → Shared → Prop} (hu : A.units + 1 < cLine) (I : Inv X pins σ H s) (g : RdX X H a es) (kb : SqT X.K H b (k.map kV)) (hv : (getM es k).map (·.2) = some v) (h : ∀ w' s', Inv X pins σ H s' → RelV v w' → Q w' s') :
    wpAny (model X.prog X.w) A (getItem (.ref a) (.ref b)) Q E s := by
  obtain ⟨z, hd, xs, rel, dd⟩ := dx_rd I.hok I.kIn g.1 g.2
  obtain ⟨w', hw, rw'⟩ := RelO.some_of (v := v) (o := (atKey xs k).map (·.2)) (by rw [← hv]; exact rel.val k)
  obtain ⟨p, hp, hp2⟩ := Option.map_eq_some_iff.mp hw
  refine wpAny_getItem_heap (tupleKind_room_in1 hu) (keyK I.hok I.kIn kb) dd hp ?_
  rw [hp2]
  exact h w' _ (I.tok _) rw'
theorem x_in {Q : Value → Shared → Prop} (hu : A.units + 1 < cLine) (I : Inv X pins σ H s) (g : RdX X H a es) (kb : SqT X.K H b (k.map kV)) (h : ∀ s', Inv X pins σ H s' → Q (.bool (getM es k).isSome) s') :
    wpAny (model X.prog X.w) A (compareOp .In (.ref b) (.ref a)) Q E s := by
  obtain ⟨z, hd, xs, rel, dd⟩ := dx_rd I.hok I.kIn g.1 g.2
  refine wpAny_in_heap (tupleKind_room_in1 hu) (keyK I.hok I.kIn kb) hd dd ?_
  rw [← rel.some k]
  exact h _ (I.tok _)
theorem x_notIn {Q : Value → Shared → Prop} (hu : A.units + 1 < cLine) (I : Inv X pins σ H s) (g : RdX X H a es) (kb : SqT X.K H b (k.map kV)) (h : ∀ s', Inv X pins σ H s' → Q (.bool (!(getM es k).isSome)) s') :
    wpAny (model X.prog X.w) A (compareOp .NotIn (.ref b) (.ref a)) Q E s := by
  obtain ⟨z, hd, xs, rel, dd⟩ := dx_rd I.hok I.kIn g.1 g.2
  refine wpAny_notIn_heap (tupleKind_room_in1 hu) (keyK I.hok I.kIn kb) hd dd ?_
  rw [← rel.some k]
  exact h _ (I.tok _)
theorem x_setItem {Q : Unit → Shared → Prop} (hu : A.units + 1 < cLine) (I : Inv X pins σ H s) (g : H a = some (DXO X.prog X.w a es)) (hk : KeysAt X.K H es) (kb : SqT X.K H b (k.map kV)) (hz : es.length < sizeLine) (rv : RelV v r)
    (h : ∀ s', Inv X pins σ (upd H a (DXO X.prog X.w a (putE es k b v))) s' → Q () s') : wpAny (model X.prog X.w) A (setItem (.ref a) (.ref b) r) Q E s := by
  obtain ⟨z, hd, xs, rel, dd⟩ := dx_rd I.hok I.kIn (.inl g) hk
  have hzx : xs.length ≤ sizeLine := by rw [← Paired.length rel]; exact z
  have hl : (putE es k b v).length ≤ sizeLine := by have := putE_len es k b v; omega
  refine wpAny_setItem_heap (hsz := hzx) (tupleKind_room_in1 hu) (keyK I.hok I.kIn kb) dd fun h' dd' hs => h _ ?_
  obtain ⟨q, os, ep, hq, h2⟩ := id dd'
  exact d_write I (by rw [g]; exact True.intro) hs ⟨q, hq⟩ (dx_ok hl hd (rel.put k rv) dd')
theorem x_typeIs (I : Inv X pins σ H s) (g : RdX X H a es) : s.TypeIs (.ref a) "dict" := by
  obtain ⟨_, _, xs, _, dd⟩ := dx_rd I.hok I.kIn g.1 g.2
  exact dd.typeIs
theorem x_noDict (I : Inv X pins σ H s) (g : RdX X H a es) : ∀ b, Value.ref a = .ref b → ∃ ob, s.heap.get? b = some ob ∧ ob.dict = none := fun b q => by
  cases q
  obtain ⟨_, _, xs, _, ob, _, _, h1, h2, _⟩ := dx_rd I.hok I.kIn g.1 g.2
  exact ⟨ob, h1, h2.2.1⟩
theorem x_len {Q : Value → Shared → Prop} (I : Inv X pins σ H s) (g : RdX X H a es) (h : ∀ t s', Inv X pins σ H s' → Q (.int es.length t) s') : wpAny (model X.prog X.w) A (call (.builtin "len") [.ref a]) Q E s := by
  obtain ⟨z, hd, xs, rel, dd⟩ := dx_rd I.hok I.kIn g.1 g.2
  have ex : xs.length = es.length := (Paired.length rel).symm
  refine PyProof.Rows.call_len_slot (n := xs.length) dd.typeIs PySem.F.slot_dict_len (fun Q' hq => len_keyed (knd := tupleKind (mixKind X.prog X.w)) (kvs := pairsH xs) hd ⟨xs, dd, rfl⟩ (by simpa [pairsH] using hq)) (by omega) (by rw [ex]; rw [sizeLine_eq] at z; omega) ?_
  rw [ex]
  exact h _ _ (I.tok _)
end
end BX
set_option Elab.async false
set_option linter.all false
set_option maxRecDepth 100000
set_option maxHeartbeats 1000000
/-! BXe: rules for dicts whose keys are tuples of ints. -/
namespace BX
open PySem PySem.Spec PyProof.Rows L2

theorem dx_empty {P : Program} {w : World} {H : Hp} (h : Heap) (hb : sysModules < h.objs.size) : ObjOk P w H (h.push { cls := .type "dict", data := .dict #[] }) h.objs.size (DXO P w h.objs.size []) :=
  dx_ok (Nat.zero_le _) (beq_eq_false_iff_ne.mpr (Ne.symm (Nat.ne_of_lt hb))) .nil
    ⟨_, #[], 0, Heap.get?_push_size _ rfl, ⟨rfl, rfl, rfl⟩, rfl, rfl, (by intro x hx; cases hx), List.nodup_nil⟩

section
variable (P : Program) (w : World) (K : PySem.W.Frag)
/-- {} -/
def tXNew : TE := fun _ H Q => ∀ p, H p = none → Q (.ref p) (upd H p (DXO P w p []))
/-- d[y] -/
def tXGet (td ty : TE) : TE := fun σ H Q => td σ H fun x H1 => ty σ H1 fun y H2 => ∃ a es b k v, x = .ref a ∧ Rd H2 a (DXO P w a es) ∧ KeysAt K H2 es ∧ y = .ref b ∧ SqT K H2 b (k.map kV) ∧ (getM es k).map (·.2) = some v ∧ Q v H2
/-- y in d -/
def tXIn (ty td : TE) : TE := fun σ H Q => ty σ H fun y H1 => td σ H1 fun x H2 => ∃ a es b k, x = .ref a ∧ Rd H2 a (DXO P w a es) ∧ KeysAt K H2 es ∧ y = .ref b ∧ SqT K H2 b (k.map kV) ∧ Q (.bl (getM es k).isSome) H2
def tXNotIn (ty td : TE) : TE := fun σ H Q => ty σ H fun y H1 => td σ H1 fun x H2 => ∃ a es b k, x = .ref a ∧ Rd H2 a (DXO P w a es) ∧ KeysAt K H2 es ∧ y = .ref b ∧ SqT K H2 b (k.map kV) ∧ Q (.bl (!(getM es k).isSome)) H2
/-- d[y] = v -/
def sXPut (td ty tv : TE) : TS := fun D σ H => tv σ H fun v H1 => td σ H1 fun x H2 => ty σ H2 fun y H3 => ∃ a es b k, x = .ref a ∧ H3 a = some (DXO P w a es) ∧ KeysAt K H3 es ∧ y = .ref b ∧ SqT K H3 b (k.map kV) ∧ es.length < sizeLine ∧
  D.nx σ (upd H3 a (DXO P w a (putE es k b v)))
/-- d.get(y, z) -/
def tXGet2 (td ty tz : TE) : TE := fun σ H Q => td σ H fun x H1 => ∃ a es0, x = .ref a ∧ Rd H1 a (DXO P w a es0) ∧ KeysAt K H1 es0 ∧ ty σ H1 fun y H2 => tz σ H2 fun z H3 => ∃ es b k, Rd H3 a (DXO P w a es) ∧ KeysAt K H3 es ∧ y = .ref b ∧ SqT K H3 b (k.map kV) ∧
  Q (((getM es k).map (·.2)).getD z) H3
/-- len(d) -/
def rXLen : List V → Hp → VK → Prop := fun xs H Q => ∃ a es, xs = [.ref a] ∧ Rd H a (DXO P w a es) ∧ KeysAt K H es ∧ Q (.int es.length) H
end

section
variable {X : Cx} {pos : Pos} {o i e value f : Expr} {pos' tpos apos cpos : Pos} {td ty tv tz : TE}
theorem pe_xnew : PE X (.Dict [] [] pos) (tXNew X.prog X.w) := ⟨fun pins s σ H Q I h =>
  wpAny_Dict_empty ⟨.ref s.heap.objs.size, _, I.laid (a := s.heap.objs.size) (o := DXO X.prog X.w s.heap.objs.size []) (t' := s.toks) (fun _ _ q => Heap.get?_push_of_some _ q) (Nat.le_refl _) (dx_empty s.heap I.big), rfl, h _ (I.hok.fresh (Nat.le_refl _))⟩⟩
theorem pe_xget (hu : X.A.units + 1 < cLine) (ho : PE X o td) (hi : PE X i ty) (hs : NoSl i) : PE X (.Subscript o i pos) (tXGet X.prog X.w X.K td ty) := by
  refine ⟨fun pins s σ H Q I h => ?_⟩
  refine subD_of PySem.F.slot_dict_getitem.lookup hs (thn (ho.run pins s σ H _ I h) fun u s1 ⟨x, H1, I1, rx, q1⟩ => thn (hi.run pins s1 σ H1 _ I1 q1) fun iv s2 ⟨y, H2, I2, ry, a, es, b, k, v, ex, g, ka, ey, kb, hv, q2⟩ => ?_)
  subst ex ey
  obtain rfl : u = Value.ref a := rx
  obtain rfl : iv = Value.ref b := ry
  exact ⟨x_typeIs I2 ⟨g, ka⟩, x_getItem hu I2 ⟨g, ka⟩ kb hv fun w' s3 I3 rw' => ⟨v, H2, I3, rw', q2⟩⟩
theorem pc_xin (hu : X.A.units + 1 < cLine) (hi : PE X i ty) (ho : PE X o td) : PC X .In i o (tXIn X.prog X.w X.K ty td) := by
  refine ⟨fun pins s σ H Q I h => ?_⟩
  refine thn (hi.run pins s σ H _ I h) fun iv s1 ⟨y, H1, I1, ry, q1⟩ => thn (ho.run pins s1 σ H1 _ I1 q1) fun u s2 ⟨x, H2, I2, rx, a, es, b, k, ex, g, ka, ey, kb, q2⟩ => ?_
  subst ex ey
  obtain rfl : u = Value.ref a := rx
  obtain rfl : iv = Value.ref b := ry
  exact x_in hu I2 ⟨g, ka⟩ kb fun s3 I3 => ⟨.bl _, H2, I3, rfl, q2⟩
theorem pc_xnotin (hu : X.A.units + 1 < cLine) (hi : PE X i ty) (ho : PE X o td) : PC X .NotIn i o (tXNotIn X.prog X.w X.K ty td) := by
  refine ⟨fun pins s σ H Q I h => ?_⟩
  refine thn (hi.run pins s σ H _ I h) fun iv s1 ⟨y, H1, I1, ry, q1⟩ => thn (ho.run pins s1 σ H1 _ I1 q1) fun u s2 ⟨x, H2, I2, rx, a, es, b, k, ex, g, ka, ey, kb, q2⟩ => ?_
  subst ex ey
  obtain rfl : u = Value.ref a := rx
  obtain rfl : iv = Value.ref b := ry
  exact x_notIn hu I2 ⟨g, ka⟩ kb fun s3 I3 => ⟨.bl _, H2, I3, rfl, q2⟩
theorem ps_xput (hu : X.A.units + 1 < cLine) (ho : PE X o td) (hi : PE X i ty) (hv : PE X value tv) (hs : swapsWith value (some (.Subscript o i pos')) pos.line X.env = pure false) :
    PS X (.Assign [.Subscript o i pos'] value pos) (sXPut X.prog X.w X.K td ty tv) := by
  refine ⟨fun pins s σ H D I h => ?_⟩
  refine wpAny_Assign_Subscript (thn (hv.run pins s σ H _ I h) fun r s1 ⟨v, H1, I1, rv, q1⟩ => thn (ho.run pins s1 σ H1 _ I1 q1) fun u s2 ⟨x, H2, I2, rx, q2⟩ => thn (hi.run pins s2 σ H2 _ I2 q2) fun iv s3 ⟨y, H3, I3, ry, a, es, b, k, ex, g, ka, ey, kb, hz, q3⟩ => ?_) hs
  subst ex ey
  obtain rfl : u = Value.ref a := rx
  obtain rfl : iv = Value.ref b := ry
  exact x_setItem hu I3 g ka kb hz rv fun s4 I4 => ⟨σ, _, I4, q3⟩
theorem x_get2 {pins : List (Addr × Obj)} {σ : L2.St} {H : Hp} {s : Shared} {a b : Addr} {d : V} {r : Value} {es : List DEnt} {k : List Key} {A : Around} {E : Value → Shared → Prop} {Q : Value → Shared → Prop} (hu : A.units + 1 < cLine) (I : Inv X pins σ H s) (g : RdX X H a es) (kb : SqT X.K H b (k.map kV)) (rd : RelV d r) (h : ∀ w' s', Inv X pins σ H s' → RelV (((getM es k).map (·.2)).getD d) w' → Q w' s') :
    wpAny (model X.prog X.w) A (call (.builtin "dict.get") [.ref a, .ref b, r]) Q E s := by
  obtain ⟨z, hd, xs, rel, dd⟩ := dx_rd I.hok I.kIn g.1 g.2
  refine call_meetsIn PySem.F.slot_dict_get dd.typeIs PySem.F.entry_dict_get (PySem.F.args_dict_get_3 _ _ _) (meetsH_dict_get_default (tupleKind (mixKind X.prog X.w)) a b hd r) ⟨tupleKind_room_in1 hu, k, xs, keyK I.hok I.kIn kb, dd, h _ _ (I.tok _) ?_⟩
  exact (rel.val k).getD rd
theorem pe_xget2 (hu : X.A.units + 1 < cLine) (ho : PE X o td) (he : PE X e ty) (hf : PE X f tz) (m : M2 X o "get" apos e f cpos) : PE X (.Call (.Attribute o "get" apos) [e, f] [] cpos) (tXGet2 X.prog X.w X.K td ty tz) := by
  refine ⟨fun pins s σ H Q I h => ?_⟩
  refine wpAny_Call_method m.base m.few m.line PySem.F.plainAttrs_dict PySem.F.slot_dict_get PySem.F.type_dict_get (thn (ho.run pins s σ H _ I h) fun u s1 ⟨x, H1, I1, rx, a, es0, ex, d, kd, q1⟩ => ?_)
  subst ex
  obtain rfl : u = Value.ref a := rx
  refine ⟨x_typeIs I1 ⟨d, kd⟩, x_noDict I1 ⟨d, kd⟩, ?_⟩
  rw [m.trees]
  refine Calls.callWith_builtin rfl (Calls.evalArgs_plain (Calls.spliced_cons (thn (he.run pins s1 σ H1 _ I1 q1) fun iv s2 ⟨y, H2, I2, ry, q2⟩ =>
    Calls.spliced_cons (thn (hf.run pins s2 σ H2 _ I2 q2) fun fv s3 ⟨z, H3, I3, rz, es, b, k, g, ka, ey, kb, q3⟩ => Calls.spliced_nil ?_))))
  subst ey
  obtain rfl : iv = Value.ref b := ry
  exact x_get2 hu I3 ⟨g, ka⟩ kb rz fun w' s4 I4 rw' => ⟨_, H3, I4, rw', q3⟩
theorem cr_xlen : CallR X (.builtin "len") (rXLen X.prog X.w X.K) := by
  intro pins s σ H xs us Q I r ⟨a, es, ex, g, ka, q⟩
  subst ex
  obtain ⟨u, eu, rx⟩ := vals1 r
  subst eu
  cases rx
  exact x_len I ⟨g, ka⟩ fun t s' I' => ⟨.int es.length, H, I', ⟨t, rfl⟩, q⟩
end

/-! ### typed -/
abbrev rKey (K : PySem.W.Frag) (k : List Int) : Rel := rTup K (k.map rInt)
theorem al_ints {H : Hp} : ∀ {k : List Int} {vs : List V}, Al H (k.map rInt) vs → vs = k.map V.int
  | [], _, .nil => rfl
  | i :: k, _, .cons h t => by rw [List.map_cons, ← al_ints t]; exact congrArg (· :: _) h
theorem ints_al {H : Hp} : ∀ (k : List Int), Al H (k.map rInt) (k.map V.int)
  | [] => .nil
  | i :: k => .cons rfl (ints_al k)
theorem rKey_at {K : PySem.W.Frag} {k : List Int} {v : V} {H : Hp} (h : (rKey K k).p v H) : ∃ b, v = .ref b ∧ SqT K H b ((ik k).map kV) := by
  obtain ⟨a, xs, e, s, l⟩ := h
  refine ⟨a, e, ?_⟩
  rw [ik_kV, ← al_ints l]
  exact s
theorem rKey_of {K : PySem.W.Frag} {k : List Int} {b : Addr} {H : Hp} (h : SqT K H b (k.map V.int)) : (rKey K k).p (.ref b) H := ⟨b, _, rfl, h, ints_al k⟩
theorem AlX.val {K : PySem.W.Frag} {H : Hp} {ks : List (List Int × Rel)} {es : List DEnt} (h : AlX K H ks es) (k : List Int) :
    (getM ks k = none ∧ getM es (ik k) = none) ∨ ∃ r b v, getM ks k = some r ∧ getM es (ik k) = some (b, v) ∧ r.p v H := by
  induction h with
  | nil => exact .inl ⟨rfl, rfl⟩
  | @cons p q l1 l2 h t ih =>
    obtain ⟨h1, _, h2⟩ := h
    rw [getM_cons, getM_cons]
    by_cases e : p.1 = k
    · rw [if_pos e, if_pos (by rw [← h1, e])]
      exact .inr ⟨_, _, _, rfl, rfl, h2⟩
    · rw [if_neg e, if_neg (fun z => e (ik_inj (h1.trans z)))]
      exact ih
theorem AlX.some {K : PySem.W.Frag} {H : Hp} {ks : List (List Int × Rel)} {es : List DEnt} (h : AlX K H ks es) (k : List Int) : (getM es (ik k)).isSome = (getM ks k).isSome := by
  rcases h.val k with ⟨a, b⟩ | ⟨_, _, _, a, b, _⟩ <;> rw [a, b] <;> rfl
theorem AlX.put {K : PySem.W.Frag} {H : Hp} {ks : List (List Int × Rel)} {es : List DEnt} (h : AlX K H ks es) {k : List Int} {b : Addr} {r : Rel} {v : V} (hb : SqT K H b ((ik k).map kV)) (hv : r.p v H) :
    AlX K H (putM ks k r) (putE es (ik k) b v) := by
  unfold putM putE
  rw [h.some k]
  by_cases q : (getM ks k).isSome = true
  · rw [if_pos q, if_pos q]
    clear q
    induction h with
    | nil => exact .nil
    | @cons p q l1 l2 h t ih =>
      obtain ⟨h1, h0, h2⟩ := h
      rw [List.map_cons, List.map_cons]
      refine .cons ?_ ih
      by_cases e : p.1 = k
      · rw [if_pos e, if_pos (by rw [← h1, e])]
        exact ⟨h1, h0, hv⟩
      · rw [if_neg e, if_neg (fun z => e (ik_inj (h1.trans z)))]
        exact ⟨h1, h0, h2⟩
  · rw [if_neg q, if_neg q]
    rw [ik_kV] at hb
    exact Paired.snoc h ⟨rfl, hb, hv⟩
theorem AlX.length {K : PySem.W.Frag} {H : Hp} {ks : List (List Int × Rel)} {es : List DEnt} (h : AlX K H ks es) : es.length = ks.length := (Paired.length h).symm

/-- a dict that is read -/
def WpQ (B : Bd) (Γ : Ctx) (te : TE) (k : List (List Int × Rel) → Prop) : Prop :=
  ∀ σ H, Env B Γ σ H → ∀ Q : VK, (∀ ks a es H', k ks → Rd H' a (DXO B.P B.w a es) → AlX B.K H' ks es → Same H H' → Q (.ref a) H') → te σ H Q
section
variable {B : Bd} {Γ : Ctx} {ta tb tc te td ty tv tz : TE} {k : Rel → Prop} {D : Ends}
theorem Same.rd {H H' : Hp} {a : Addr} {u : HO} (e : Same H H') (h : Rd H a u) : Rd H' a u := by
  rcases h with h | ⟨o, h⟩
  · exact .inl (e _ _ h)
  · exact .inr ⟨o, e _ _ h⟩
theorem wq_var {i : Nat} {ks : List (List Int × Rel)} {kq : List (List Int × Rel) → Prop} (h : Γ[i]? = some (.mx ks)) (q : kq ks) : WpQ B Γ (tVar i) kq := fun σ H E Q hQ => by
  obtain ⟨ov, h1, l, es, rfl, h0, hl, hal⟩ := E.ty i _ h
  exact ⟨_, h1, hQ ks l es H q (.inl hl) hal (Same.refl H)⟩
theorem wq_e {kq : List (List Int × Rel) → Prop} (h : WpE B Γ te fun r => ∃ ks, r = rDct B.P B.w B.K ks ∧ kq ks) : WpQ B Γ te kq := fun σ H E Q hQ =>
  h σ H E _ fun r v H1 ⟨ks, er, hk⟩ p e => by
    subst er
    obtain ⟨a, o, es, rfl, ha, hal⟩ := p
    exact hQ ks a es H1 hk (.inr ⟨o, ha⟩) hal e
theorem wx_new {kx : List (List Int × Rel) → Prop} (q : kx []) : WpX B Γ (tXNew B.P B.w) kx := fun σ H E Q hQ p hp =>
  hQ [] p [] _ q hp (Same.new hp) upd_same .nil
theorem we_xget (h : WpQ B Γ td fun ks => WpE B Γ ty fun r => ∃ kk rv, r = rKey B.K kk ∧ getM ks kk = some rv ∧ k rv) : WpE B Γ (tXGet B.P B.w B.K td ty) k := fun σ H E Q hQ =>
  h σ H E _ fun ks a es H1 h1 ra hal e1 => h1 σ H1 (E.mono e1) _ fun r v H2 ⟨kk, rv, er, hg, hk⟩ p e2 => by
    subst er
    obtain ⟨b, rfl, hb⟩ := rKey_at p
    have hal2 := hal.st (Same.im e2)
    rcases hal2.val kk with ⟨n, _⟩ | ⟨r', b', v', g1, g2, pv⟩
    · rw [hg] at n; cases n
    · rw [hg] at g1
      cases g1
      exact ⟨a, es, b, ik kk, v', rfl, Same.rd e2 ra, hal2.keys, rfl, hb, by rw [g2]; rfl, hQ _ _ _ hk pv (Same.trans e1 e2)⟩
theorem we_xin (h : WpE B Γ ty fun r => ∃ kk, r = rKey B.K kk ∧ WpQ B Γ td fun ks => k (rBl (getM ks kk).isSome)) : WpE B Γ (tXIn B.P B.w B.K ty td) k := fun σ H E Q hQ =>
  h σ H E _ fun r v H1 ⟨kk, er, h1⟩ p e1 => h1 σ H1 (E.mono e1) _ fun ks a es H2 hk ra hal e2 => by
    subst er
    obtain ⟨b, rfl, hb⟩ := rKey_at (Rel.st _ (Same.im e2) p)
    refine ⟨a, es, b, ik kk, rfl, ra, hal.keys, rfl, hb, ?_⟩
    rw [hal.some kk]
    exact hQ _ _ _ hk rfl (Same.trans e1 e2)
theorem we_xnotin (h : WpE B Γ ty fun r => ∃ kk, r = rKey B.K kk ∧ WpQ B Γ td fun ks => k (rBl (!(getM ks kk).isSome))) : WpE B Γ (tXNotIn B.P B.w B.K ty td) k := fun σ H E Q hQ =>
  h σ H E _ fun r v H1 ⟨kk, er, h1⟩ p e1 => h1 σ H1 (E.mono e1) _ fun ks a es H2 hk ra hal e2 => by
    subst er
    obtain ⟨b, rfl, hb⟩ := rKey_at (Rel.st _ (Same.im e2) p)
    refine ⟨a, es, b, ik kk, rfl, ra, hal.keys, rfl, hb, ?_⟩
    rw [hal.some kk]
    exact hQ _ _ _ hk rfl (Same.trans e1 e2)
theorem we_xget2 (h : WpQ B Γ td fun ks => WpE B Γ ty fun r => ∃ kk, r = rKey B.K kk ∧ WpE B Γ tz fun rz => k ((getM ks kk).getD rz)) : WpE B Γ (tXGet2 B.P B.w B.K td ty tz) k := fun σ H E Q hQ =>
  h σ H E _ fun ks a es H1 h1 ra hal e1 => ⟨a, es, rfl, ra, hal.keys, h1 σ H1 (E.mono e1) _ fun r v H2 ⟨kk, er, h2⟩ p e2 => h2 σ H2 (E.mono (Same.trans e1 e2)) _ fun rz z H3 hk pz e3 => by
    subst er
    have e13 : Same H H3 := Same.trans e1 (Same.trans e2 e3)
    obtain ⟨b, rfl, hb⟩ := rKey_at (Rel.st _ (Same.im e3) p)
    have hal3 := hal.st (Same.im (Same.trans e2 e3))
    refine ⟨es, b, ik kk, Same.rd (Same.trans e2 e3) ra, hal3.keys, rfl, hb, ?_⟩
    rcases hal3.val kk with ⟨n1, n2⟩ | ⟨r', b', v', g1, g2, pv⟩
    · rw [n2]
      rw [n1] at hk
      exact hQ _ _ _ hk pz e13
    · rw [g2]
      rw [g1] at hk
      exact hQ _ _ _ hk pv e13⟩
/-- len(d) -/
theorem we_xlen (h : WpQ B Γ td fun ks => k (rInt ks.length)) : WpE B Γ (tCB (rXLen B.P B.w B.K) (tCons td tNil)) k := fun σ H E Q hQ =>
  h σ H E _ fun ks a es H1 hk ra hal e1 => ⟨a, es, rfl, ra, hal.keys, by rw [hal.length]; exact hQ _ _ _ hk rfl e1⟩
theorem ws_xput {i : Nat} {ks : List (List Int × Rel)} {t : TS} (hi : Γ[i]? = some (.mx ks)) (h : WpE B Γ tv fun rv => WpE B Γ ty fun r => ∃ kk, r = rKey B.K kk ∧ ks.length < sizeLine ∧ WpS B D (Γ.set i (.mx (putM ks kk rv))) t) :
    WpS B D Γ (tSeq (sXPut B.P B.w B.K (tVar i) ty tv) t) := fun σ H E =>
  h σ H E _ fun rv v H1 h1 pv e1 => by
    obtain ⟨ov, h2, l, es, rfl, h0, hl, hal⟩ := E.ty i _ hi
    refine ⟨_, h2, h1 σ H1 (E.mono e1) _ fun r y H3 ⟨kk, er, hz, q⟩ p e3 => ?_⟩
    subst er
    obtain ⟨b, rfl, hb⟩ := rKey_at p
    have e13 : Same H H3 := Same.trans e1 e3
    have hal3 := hal.st (Same.im e13)
    have hl3 := e13 _ _ hl
    refine ⟨l, es, b, ik kk, rfl, hl3, hal3.keys, rfl, hb, by rw [hal.length]; exact hz, ?_⟩
    exact q _ _ ((E.mono e13).chg hi rfl h2 hl3 dx_c h0 ⟨l, _, rfl, h0, upd_same, AlX.st (Im.upd hl3 dx_c) (hal3.put hb (Rel.st _ (Same.im e3) pv))⟩)
end
end BX
set_option Elab.async false
set_option linter.all false
set_option maxRecDepth 100000
set_option maxHeartbeats 1000000
/-! BXf: walks over dicts whose keys are tuples of ints; sorted, list of items, dict of pairs. -/
namespace BX
open PySem PySem.Spec PyProof.Rows L2

section
variable {X : Cx} {pins : List (Addr × Obj)} {σ : L2.St} {H : Hp} {s : Shared} {d : Addr} {o : Obj} {es : List DEnt}
theorem pget2 {α β : Type} {G : α → β → Prop} {l₁ : List α} {l₂ : List β} (h : Paired G l₁ l₂) {i : Nat} {a : α} (e : l₁[i]? = some a) : ∃ b, l₂[i]? = some b ∧ G a b := paired_get h e
/-- the raw entries -/
theorem x_raw {es : List DEnt} (I : Inv X pins σ H s) (g : Rd H d (DXO X.prog X.w d es)) : (d == sysModules) = false ∧ es.length ≤ sizeLine ∧ ∃ (ob : Obj) (os : Array DictEntry) (ep : Nat), s.heap.get? d = some ob ∧ ob.ExactDict ∧ ob.data = .dict os ep ∧ os.size = es.length ∧
    ∀ (i : Nat) (e : DEnt), es[i]? = some e → ∃ en : DictEntry, os[i]? = some en ∧ en.key = .ref e.2.1 ∧ RelV e.2.2 en.val := by
  have x : ObjOk X.prog X.w H s.heap d (.ext (dxφ X.prog X.w d es)) := g.ok I.hok
  obtain ⟨⟨z, y, xs, r, ob, os, ep, h1, h2, h3, h4, h5⟩, _⟩ := x
  refine ⟨y, z, ob, os, ep, h1, h2, h3, ?_, fun i e he => ?_⟩
  · have l1 : os.size = xs.length := size_of_entries h4
    have l2 : es.length = xs.length := Paired.length r
    omega
  · obtain ⟨b, hb, _, e2, e3⟩ := pget2 r he
    have q := entry_at h4 i
    rw [hb] at q
    exact ⟨_, q, congrArg Value.ref e2.symm, e3⟩
theorem x_frz (I : Inv X pins σ H s) (h : H d = some (.frz o (DXO X.prog X.w d es))) :
    (d == sysModules) = false ∧ s.heap.get? d = some o ∧ o.ExactDict ∧ ∃ (os : Array DictEntry) (ep : Nat), o.data = .dict os ep ∧ os.size = es.length ∧
      ∀ (i : Nat) (e : DEnt), es[i]? = some e → ∃ en : DictEntry, os[i]? = some en ∧ en.key = .ref e.2.1 ∧ RelV e.2.2 en.val := by
  obtain ⟨y, z, ob, os, ep, h1, h2, h3, h4, h5⟩ := x_raw I (.inr ⟨o, h⟩)
  have hd : s.heap.get? d = some o := (I.hok d _ h).1
  rw [hd] at h1
  cases h1
  exact ⟨y, hd, h2, os, ep, h3, h4, h5⟩
end

/-- the keys of the locked dict: their own tuples -/
def Itx (P : Program) (w : World) (d : Addr) (o : Obj) (es : List DEnt) : It :=
  ⟨fun i H => H d = some (.frz o (DXO P w d es)) ∧ i < es.length, fun i H x H' => H' = H ∧ ∃ e, es[i]? = some e ∧ x = .ref e.2.1, fun i H => H d = some (.frz o (DXO P w d es)) ∧ es.length ≤ i⟩
theorem walk_x {P : Program} {w : World} {d : Addr} {o : Obj} {es : List DEnt} : Walk (Itx P w d o es) es.length (fun H => H d = some (.frz o (DXO P w d es))) (fun i H x H' => H' = H ∧ ∃ e, es[i]? = some e ∧ x = .ref e.2.1) :=
  ⟨fun _ _ hi q => ⟨q, hi⟩, fun _ q => ⟨q, Nat.le_refl _⟩, fun _ _ _ _ _ _ y => y⟩
section
variable {P : Program} {w : World} {K : PySem.W.Frag} {tg : Expr} {d : Addr} {o : Obj} {os : Array DictEntry} {ep : Nat}
theorem turn_x {es : List DEnt} (it : Addr) (hod : o.data = .dict os ep) : Turn P w K tg (Itx P w d o es) [it] it (fun i h => h.IsKeyIter it d i es.length ep) where
  mem := by simp
  obj := fun i h st b hb => by
    have e : b = it := by simpa using hb
    subst e
    obtain ⟨oi, e, c, dd⟩ := st
    exact ⟨oi, e, fun v z => by rw [dd] at z; cases z⟩
  keep := fun i h h' st k => st.at fun oi e => k it (by simp) oi e
  item := by
    intro X hP hw hK hc i pins s σ H E I hf st hg
    subst hP hw hK
    obtain ⟨hd, hi⟩ := hg
    obtain ⟨f0, f1, f2, f3, f4, f5⟩ := hf it (by simp)
    obtain ⟨hs, hgd, hx, os', ep', hdt, hsz, ent⟩ := x_frz I hd
    obtain ⟨rfl, rfl⟩ := dict_ep hod hdt
    obtain ⟨e1, he1⟩ : ∃ p, es[i]? = some p := ⟨es[i], List.getElem?_eq_getElem hi⟩
    obtain ⟨en, hen, hkey, _⟩ := ent i e1 he1
    refine next_key_item st hgd hdt hsz hen fun h' st' sb => ?_
    have I1 : Inv X pins σ H { s with heap := h' } := I.turned (t' := s.toks) (fun b ob hb e => (sb.2 b hb).trans e) f0 f1 f3 f4 f5
    obtain ⟨oi, e, c, dd⟩ := id st'
    exact ⟨en.key, rfl, go_of (s := { s with heap := h' }) e c dd (by decide) ⟨.ref e1.2.1, H, I1, hkey, ⟨rfl, e1, he1, rfl⟩, st', fun b hb => (hf b hb).1⟩⟩
  done := by
    intro X hP hw hK hc i pins s σ H E I hf st hg
    subst hP hw hK
    obtain ⟨hd, hi⟩ := hg
    obtain ⟨f0, f1, f2, f3, f4, f5⟩ := hf it (by simp)
    obtain ⟨hs, hgd, hx, os', ep', hdt, hsz, ent⟩ := x_frz I hd
    obtain ⟨rfl, rfl⟩ := dict_ep hod hdt
    exact next_key_end (I.ok.hd hc) st hgd hdt hsz hi fun h' eb => ⟨rfl, I.turned (t' := s.toks) (fun b ob hb e => eb b ob hb e) f0 f1 f3 f4 f5⟩
  self := fun A i s Q E st h => by
    refine wpAny_pyIter_slot st.typeIs F.slot_dict_keyiterator_iter (wpAny_call_entry F.slot_dict_keyiterator_iter st.typeIs F.entry_dict_keyiterator_iter ?_ (F.args_dict_keyiterator_iter_1 _))
    show wpAny _ _ (ret (.ref it)) _ _ s
    exact wpAny_pure ⟨_, rfl, "dict_keyiterator", _, st.typeIs, F.slot_dict_keyiterator_next.lookup, h⟩
end
def iXKeys (P : Program) (w : World) (td : TE) : TI := fun σ H R => td σ H fun x H1 => ∃ d o es, x = .ref d ∧ H1 d = some (.frz o (DXO P w d es)) ∧ R (Itx P w d o es) H1
theorem pi_xkeys {X : Cx} {tg e : Expr} {td : TE} (he : PE X e td) : PI X tg e (iXKeys X.prog X.w td) := by
  refine ⟨fun pins s σ H R I h => ?_⟩
  refine thn (he.run pins s σ H _ I h) fun u s1 ⟨x, H1, I1, rx, d, o, es, ex, hd, q⟩ => ?_
  subst ex
  obtain rfl : u = Value.ref d := rx
  obtain ⟨hs, hgd, hx, os, ep, hdt, hsz, ent⟩ := x_frz I1 hd
  refine iter_keys hs hgd hx hdt (pi_one (tk := s1.toks) I1 _ (turn_x _ hdt) ⟨_, Heap.get?_push_size _ rfl, rfl, ?_⟩ q)
  rw [hsz] <;> rfl
theorem wi_xkeys {B : Bd} {Γ : Ctx} {te : TE} {k : Nat → (Nat → Rel) → Prop} (h : WpE B Γ te fun r => ∃ ks, r = rDct B.P B.w B.K ks ∧ k ks.length fun i => rKey B.K ((ks.map (·.1)).getD i [])) : WpI B Γ (iXKeys B.P B.w te) k := fun σ H E R hR =>
  h σ H E _ fun r v H1 ⟨ks, er, hk⟩ p e => by
    subst er
    obtain ⟨a, o, es, rfl, ha, hal⟩ := p
    refine ⟨a, o, es, rfl, ha, ?_⟩
    have w : Walk (Itx B.P B.w a o es) ks.length (fun H => H a = some (.frz o (DXO B.P B.w a es)) ∧ AlX B.K H ks es) (fun i H x H' => H' = H ∧ ∃ e, es[i]? = some e ∧ x = .ref e.2.1) := by
      rw [← hal.length]
      exact walk_x.mono (fun _ z => z.1) fun _ _ _ _ _ _ y => y
    refine hR _ _ _ _ _ H1 hk e w ⟨ha, hal⟩ (fun H1 H2 im z => ⟨im _ _ frz_nc z.1, z.2.st im⟩) fun i H1 x H2 hi z y => ?_
    obtain ⟨rfl, e1, he1, rfl⟩ := y
    refine ⟨Same.refl _, ?_⟩
    obtain ⟨p1, hp1, q⟩ : ∃ p1, ks[i]? = some p1 ∧ SqT B.K H2 e1.2.1 (p1.1.map V.int) := by
      have hl : i < ks.length := hi
      obtain ⟨b, hb, q1, q2, q3⟩ := pget2 z.2 (List.getElem?_eq_getElem hl)
      rw [he1] at hb
      cases hb
      exact ⟨_, List.getElem?_eq_getElem hl, q2⟩
    have e2 : (ks.map (·.1)).getD i [] = p1.1 := by rw [List.getD_eq_getElem?_getD, List.getElem?_map, hp1]; rfl
    rw [e2]
    exact rKey_of q

/-! ### sorted(d) -/
def keyD (k : List Int) : PyData := .tuple (k.map .int)
def keyLe (a b : List Int) : Bool := decide (a ≤ b)
theorem dataLe_key {β : Type} (x : β → List Int) : PySem.W.dataLe false (fun b => keyD (x b)) = fun p q => keyLe (x p) (x q) := by
  funext p q
  show (!PySem.W.dataLt (.tuple ((x q).map .int)) (.tuple ((x p).map .int))) = _
  rw [PySem.W.dataLt_tuple]
  show (!PySem.W.rowLt ((x q).map .int) ((x p).map .int)) = _
  rw [PySem.W.dataLt_ints]
  unfold keyLe
  by_cases h : x q < x p
  · have h' : ¬ x p ≤ x q := fun r => List.not_lt.mpr r h
    simp [h, h']
  · have h' : x p ≤ x q := List.not_lt.mp h
    simp [h, h']
theorem reads_ints {h : Heap} : ∀ {k : List Int} {us : List Value}, Vals (k.map V.int) us → ReadsAll h us (k.map .int) []
  | [], _, r => by cases r; exact .nil
  | i :: k, _, r => by
    cases r with
    | @cons a b as bs h1 t =>
      obtain ⟨tk, rfl⟩ := h1
      exact ReadsAll.cons (as := []) (bs := []) (.int i tk) (reads_ints t)
theorem reads_key {X : Cx} {pins : List (Addr × Obj)} {σ : L2.St} {H : Hp} {s : Shared} (I : Inv X pins σ H s) {k : List Int} {b : Addr} (h : SqT X.K H b (k.map V.int)) : Reads s.heap (.ref b) (keyD k) [] := by
  obtain ⟨its, r, ⟨o, h1, h2, n, h3⟩, _⟩ := I.tuple h
  exact .tuple h1 h2 h3 (by simpa using reads_ints r)
def rXSorted (P : Program) (w : World) (K : PySem.W.Frag) : List V → Hp → VK → Prop := fun xs H Q => ∃ (a : Addr) (es : List DEnt) (bs : List (List Int × Addr)), xs = [.ref a] ∧ Rd H a (DXO P w a es) ∧ es.map (fun e => e.2.1) = bs.map (·.2) ∧ (∀ z ∈ bs, z.1 ≠ [] ∧ SqT K H z.2 (z.1.map V.int)) ∧
  ∀ p out, H p = none → out = bs.mergeSort (fun x y => keyLe x.1 y.1) → Q (.ref p) (upd H p (.lst (out.map fun z => V.ref z.2)))
theorem each_refs {R : Value → List Int × Addr → Prop} : ∀ (bs : List (List Int × Addr)), (∀ z ∈ bs, R (.ref z.2) z) → PySem.W.EachIs R (bs.map fun z => Value.ref z.2) bs
  | [], _ => .nil
  | z :: bs, h => .cons (h z (List.mem_cons_self ..)) (each_refs bs fun y hy => h y (List.mem_cons_of_mem _ hy))
theorem each_out : ∀ {vs : List Value} {bs : List (List Int × Addr)}, PySem.W.EachIs (fun v z => v = Value.ref z.2) vs bs → vs = bs.map fun z => Value.ref z.2
  | _, _, .nil => rfl
  | _, _, .cons h t => by rw [h, each_out t]; rfl
theorem cr_xsorted {X : Cx} (hcalm : X.calm = true) (hu : X.A.units + 64 < cLine) : CallR X (.builtin "sorted") (rXSorted X.prog X.w X.K) := by
  intro pins s σ H xs us Q I r ⟨a, es, bs, ex, g, hbs, hk, q⟩
  subst ex
  obtain ⟨u, eu, rx⟩ := vals1 r
  subst eu
  cases rx
  obtain ⟨lo, z, ob, os, ep, h1, h2, h3, h4, h5⟩ := x_raw I g
  have hl : bs.length = es.length := by
    have e := congrArg List.length hbs
    rw [List.length_map, List.length_map] at e
    exact e.symm
  refine Calls.call_function_entry PyProof.Rows.kind_sorted PyProof.Rows.plain_sorted PyProof.Rows.entry_sorted (PyProof.Rows.args_sorted1 _) ?_
  unfold Builtin.«sorted»
  refine wpAny_bind (m := checkCount "sorted" 1 1 _) (wpAny_pure ?_)
  refine wpAny_bind (PySem.W.kdu_collect (A := X.A.in1) (KdlSrc.rawDict (es := os) (ep := ep) lo) (I.ok.hd hcalm) ⟨ob, h1, h2, h3⟩ (by omega) fun h' tk acc hk' hacc => ?_)
  have hal : acc.toList = bs.map fun z => Value.ref z.2 := by
    apply List.ext_getElem?
    intro j
    rw [Array.getElem?_toList, List.getElem?_map]
    cases hb : bs[j]? with
    | none =>
      rw [Array.getElem?_eq_none (by rw [hacc.1, h4, ← hl]; exact List.getElem?_eq_none_iff.mp hb)]
      rfl
    | some zb =>
      have hj : j < bs.length := (List.getElem?_eq_some_iff.mp hb).1
      have hja : j < acc.size := by rw [hacc.1, h4, ← hl]; exact hj
      obtain ⟨hi, hv⟩ := hacc.2 j _ (Array.getElem?_eq_getElem hja)
      obtain ⟨e, he⟩ : ∃ e, es[j]? = some e := ⟨es[j]'(by omega), List.getElem?_eq_getElem _⟩
      obtain ⟨en, hen, hkey, _⟩ := h5 j e he
      have e1 : e.2.1 = zb.2 := by
        have q := congrArg (fun l => l[j]?) hbs
        simp only [List.getElem?_map, he, hb, Option.map_some, Option.some.injEq] at q
        exact q
      rw [Array.getElem?_eq_getElem hja, hv]
      rw [Array.getElem?_eq_getElem hi] at hen
      cases hen
      rw [hkey, e1]
      rfl
  have I1 : Inv X pins σ H { s with heap := h', toks := tk } := I.kept hk'
  refine wpAny_bind (wpAny_newList ?_ (by rw [hal, List.length_map]; omega))
  have hoL : (h'.push (seqObj "list" acc.toList.toArray 0)).get? h'.objs.size = some (seqObj "list" acc.toList.toArray 0) := Heap.get?_push_size _ rfl
  have I2 : Inv X pins σ H { s with heap := h'.push (seqObj "list" acc.toList.toArray 0), toks := tk } := I1.kept (t' := tk) fun b u e => Heap.get?_push_of_some _ e
  show wpAny _ _ _ _ _ { s with heap := h'.push (seqObj "list" acc.toList.toArray 0), toks := tk }
  rw [hal] at hoL I2 ⊢
  refine wpAny_bind (wpAny_holding (PySem.W.list_sort_data (s := { s with heap := h'.push (seqObj "list" (bs.map fun z => Value.ref z.2).toArray 0), toks := tk }) (R := fun v z => v = Value.ref z.2) (enc := fun z => keyD z.1) hoL (each_refs bs fun _ _ => rfl)
    (each_refs bs fun z hz => ⟨[], reads_key I2 (hk z hz).2, by simp⟩) (PySem.W.AllAlike.of fun b b' => ?_) (.inl fun d hd => ?_) (by omega) (fun b hb => ?_) fun out ho eo => ?_))
  · show PySem.W.alike (.tuple (b.1.map .int)) (.tuple (b'.1.map .int)) = true
    rw [PySem.W.alike]
    exact PySem.W.alike_ints _ _
  · obtain ⟨b, hb, rfl⟩ := List.mem_map.mp hd
    obtain ⟨k, ha⟩ := b
    cases k with
    | nil => exact absurd rfl (hk _ hb).1
    | cons i k => exact ⟨_, _, rfl⟩
  · show X.A.in1.units + 1 + (PyData.tuple (b.1.map .int)).depth < cLine
    rw [PyData.depth, PySem.W.depth_ints]
    show X.A.units + 1 + 1 + _ < cLine
    omega
  · rw [dataLe_key] at eo
    obtain ⟨e', he'⟩ := PyProof.Rows.sortedHeap_at (vs := bs.map fun z => Value.ref z.2) (out := out.toArray) hoL
    have eo' := each_out eo
    have hlen : ((bs.mergeSort fun x y => keyLe x.1 y.1).map fun z => V.ref z.2).length ≤ sizeLine := by
      rw [List.length_map, List.length_mergeSort]
      omega
    refine wpAny_pure ⟨_, rfl, .ref h'.objs.size, upd H h'.objs.size (.lst ((bs.mergeSort fun x y => keyLe x.1 y.1).map fun z => V.ref z.2)), I1.laid (t' := tk) (fun b u e => ?_) (Nat.le_refl _)
      (show ObjOk X.prog X.w _ _ _ (.lst _) from ⟨hlen, out, e', ?_, he'⟩), rfl, q _ _ (I1.hok.fresh (Nat.le_refl _)) rfl⟩
    · have hb : b < h'.objs.size := Heap.lt_size e
      rw [PyProof.Rows.sortedHeap_old (Nat.ne_of_lt hb) (by rw [size_push']; exact Nat.lt_succ_of_lt hb)]
      exact Heap.get?_push_of_some _ e
    · rw [eo']
      generalize (bs.mergeSort fun x y => keyLe x.1 y.1) = l
      clear eo' eo
      induction l with
      | nil => exact .nil
      | cons z l ih => exact .cons rfl ih
theorem alx_bs {K : PySem.W.Frag} {H : Hp} {ks : List (List Int × Rel)} {es : List DEnt} (h : AlX K H ks es) : ∃ bs : List (List Int × Addr), es.map (fun e => e.2.1) = bs.map (·.2) ∧ bs.map (·.1) = ks.map (·.1) ∧ ∀ z ∈ bs, SqT K H z.2 (z.1.map V.int) := by
  induction h with
  | nil => exact ⟨[], rfl, rfl, fun _ h => nomatch h⟩
  | @cons p q l1 l2 h t ih =>
    obtain ⟨bs, h1, h2, h3⟩ := ih
    refine ⟨(p.1, q.2.1) :: bs, by rw [List.map_cons, List.map_cons, h1], by rw [List.map_cons, List.map_cons, h2], fun z hz => ?_⟩
    rcases List.mem_cons.mp hz with e | hz
    · subst e; exact h.2.1
    · exact h3 z hz
theorem wl_xsorted {B : Bd} {Γ : Ctx} {td : TE} {kl : List Rel → Prop} (h : WpQ B Γ td fun ks => (∀ p ∈ ks, p.1 ≠ []) ∧ kl (((ks.map (·.1)).mergeSort keyLe).map (rKey B.K))) : WpL B Γ (tCB (rXSorted B.P B.w B.K) (tCons td tNil)) kl := fun σ H E Q hQ =>
  h σ H E _ fun ks a es H1 ⟨hne, hk⟩ ra hal e1 => by
    obtain ⟨bs, b1, b2, b3⟩ := alx_bs hal
    refine ⟨a, es, bs, rfl, ra, b1, fun z hz => ⟨?_, b3 z hz⟩, fun p out hp ho => ?_⟩
    · have m : z.1 ∈ ks.map (·.1) := by rw [← b2]; exact List.mem_map_of_mem hz
      obtain ⟨p, hp, e⟩ := List.mem_map.mp m
      rw [← e]
      exact hne p hp
    · refine hQ _ p _ _ hk (Same.free e1 hp) (Same.trans e1 (Same.new hp)) upd_same ?_
      have e2 : (ks.map (·.1)).mergeSort keyLe = out.map (·.1) := by
        rw [← b2, ho]
        exact (List.map_mergeSort (r := fun x y : List Int × Addr => keyLe x.1 y.1) (s := keyLe) (f := fun z => z.1) (fun _ _ _ _ => rfl)).symm
      rw [e2]
      have ms : ∀ z ∈ out, SqT B.K (upd H1 p (.lst (out.map fun z => V.ref z.2))) z.2 (z.1.map V.int) := fun z hz => sqT_im (Same.im (Same.new hp)) (b3 z (by rw [ho] at hz; exact List.mem_mergeSort.mp hz))
      generalize upd H1 p (.lst (out.map fun z => V.ref z.2)) = H2 at ms
      clear e2 ho
      induction out with
      | nil => exact .nil
      | cons z out ih => exact .cons (rKey_of (ms z (List.mem_cons_self ..))) (ih fun y hy => ms y (List.mem_cons_of_mem _ hy))
end BX
set_option Elab.async false
set_option linter.all false
set_option maxRecDepth 100000
set_option maxHeartbeats 1000000
/-! BXg: list(d.items()), dict(pairs), displays, comprehensions, == of dicts whose keys are tuples of ints. -/
namespace BX
open PySem PySem.Spec PyProof.Rows L2

/-! ### list(d.items()) -/
def tXItems (P : Program) (w : World) (K : PySem.W.Frag) (td : TE) : TE := fun σ H Q => td σ H fun x H1 => ∃ a es, x = .ref a ∧ Rd H1 a (DXO P w a es) ∧ KeysAt K H1 es ∧ ∀ p, H1 p = none → Q (.ref p) (upd H1 p (L2.DX.itemsO p a))
theorem pe_xitems {X : Cx} {o : Expr} {to : TE} {apos cpos : Pos} (ho : PE X o to)
    (hbase : attributeBase o "items" X.env (eval o X.env) = eval o X.env := by rfl) (hline : (apos.endLine == cpos.line) = true := by rfl) : PE X (.Call (.Attribute o "items" apos) [] [] cpos) (tXItems X.prog X.w X.K to) := by
  refine ⟨fun pins s σ H Q I h => ?_⟩
  refine wpAny_Call_method0_late hbase hline (thn (ho.run pins s σ H _ I h) fun v s1 ⟨x, H1, I1, r1, a, es, ex, g, ka, q⟩ => ?_)
  subst ex
  obtain rfl : v = Value.ref a := r1
  obtain ⟨y, z, ob, os, ep, h1, h2, h3, h4, h5⟩ := x_raw I1 g
  refine ⟨"dict", "dict.items", PySem.F.plainAttrs_dict, PySem.F.slot_dict_items, PySem.F.type_dict_items, x_typeIs I1 ⟨g, ka⟩, x_noDict I1 ⟨g, ka⟩, Calls.callWith_builtin rfl (PySem.evalArgs_none ?_)⟩
  refine DT.callItems (es := os) (ep := ep) y ⟨ob, h1, h2, h3⟩ ?_
  exact ⟨.ref s1.heap.objs.size, upd H1 s1.heap.objs.size (L2.DX.itemsO s1.heap.objs.size a), I1.laid (t' := s1.toks) (fun b u e => Heap.get?_push_of_some _ e) (Nat.le_refl _) (L2.DX.itemsO_ok (Heap.get?_push_size _ rfl)), rfl, q _ (I1.hok.fresh (Nat.le_refl _))⟩
def rXItemsList (P : Program) (w : World) : List V → Hp → VK → Prop := fun xs H Q => ∃ (p a : Addr) (es : List DEnt), xs = [.ref p] ∧ H p = some (L2.DX.itemsO p a) ∧ Rd H a (DXO P w a es) ∧
  ∀ (H' : Hp) (l : Addr) (as : List Addr), Same H H' → H l = none → as.length = es.length → H' l = some (.lst (as.map V.ref)) → (∀ (j : Nat) b e, as[j]? = some b → es[j]? = some e → H' b = some (.tup [.ref e.2.1, e.2.2])) → Q (.ref l) H'
theorem cr_xitems {X : Cx} (hc : X.calm = true) : CallR X (.type "list") (rXItemsList X.prog X.w) := by
  intro pins s σ H xs us Q I r ⟨p, a, es, ex, hp, g, q⟩
  subst ex
  obtain rfl := Vals.ref1 r
  have view : s.heap.IsItemsView p a := (show ObjOk X.prog X.w H s.heap p (L2.DX.itemsO p a) from I.hok p _ hp).1
  obtain ⟨y, z, ob, os, ep, h1, h2, h3, h4, h5⟩ := x_raw I g
  refine PySem.W.dil_call (I.ok.hd hc) view ⟨ob, h1, h2, h3⟩ (by omega) fun h' tk acc c as hk hS hl hG hacc => ?_
  have nd : as.Nodup := List.Pairwise.imp (fun h => Nat.ne_of_lt h) hG.rise
  have hn0 : H s.heap.objs.size = none := I.hok.fresh (Nat.le_refl _)
  have hlen : (as.map V.ref).length ≤ sizeLine := by rw [List.length_map]; omega
  have I1 : Inv X pins σ (upd H s.heap.objs.size (.lst (as.map V.ref))) { s with heap := h', toks := tk } := I.laid (t' := tk) hk (Nat.le_refl _)
    (show ObjOk X.prog X.w _ _ _ (.lst (as.map V.ref)) from ⟨hlen, acc.toList, c, by rw [hacc]; exact vals_maps V.ref Value.ref as fun _ _ => rfl, by rw [Array.toArray_toList]; exact hS⟩)
  obtain ⟨H2, I2, gr, qt⟩ := L2.DX.takeT (P := fun b vs => ∃ (j : Nat) (e : DEnt), as[j]? = some b ∧ es[j]? = some e ∧ vs = [.ref e.2.1, e.2.2]) I as _ I1 nd fun b hb => by
    obtain ⟨j, hj⟩ := List.mem_iff_getElem?.mp hb
    have hlt : j < es.length := by
      have := (List.getElem?_eq_some_iff.mp hj).1
      omega
    obtain ⟨e, he⟩ : ∃ e, es[j]? = some e := ⟨es[j], List.getElem?_eq_getElem hlt⟩
    obtain ⟨en, hen, hkey, hv⟩ := h5 j e he
    obtain ⟨hj', hg⟩ := hG.pairs j b hj
    have hab : s.heap.objs.size < b := hG.above b hb
    refine ⟨Nat.le_of_lt hab, ?_, _, ⟨j, e, hj, he, rfl⟩, fun H3 => ⟨by show 2 ≤ sizeLine; decide, [os[j].key, os[j].val], ?_, ⟨_, hg, rfl, 0, rfl⟩⟩⟩
    · rw [upd_ne (Nat.ne_of_gt hab)]
      exact I.hok.fresh (Nat.le_of_lt hab)
    · rw [Array.getElem?_eq_getElem hj'] at hen
      cases hen
      exact .cons hkey (.cons hv .nil)
  refine ⟨.ref s.heap.objs.size, H2, I2, rfl, q H2 _ as (fun b u e => gr b u (by rw [upd_ne (ne_of_none e hn0)]; exact e)) hn0 (by omega) (gr _ _ upd_same) fun j b e hj he => ?_⟩
  obtain ⟨vs, ⟨i, e', i1, i2, ev⟩, hH⟩ := qt b (List.mem_of_getElem? hj)
  have eij : i = j := (List.getElem?_inj (List.getElem?_eq_some_iff.mp i1).1 nd).mp (i1.trans hj.symm)
  subst eij
  rw [he] at i2
  cases i2
  rw [hH, ev]
abbrev rEnt (K : PySem.W.Frag) (p : List Int × Rel) : Rel := rTup K [rKey K p.1, p.2]
theorem al_of {H : Hp} : ∀ {rs : List Rel} {vs : List V}, rs.length = vs.length → (∀ (j : Nat) r v, rs[j]? = some r → vs[j]? = some v → r.p v H) → Al H rs vs
  | [], [], _, _ => .nil
  | r :: rs, v :: vs, hl, h => .cons (h 0 r v rfl rfl) (al_of (by simpa using hl) fun j r' v' e1 e2 => h (j + 1) r' v' (by simpa using e1) (by simpa using e2))
  | [], _ :: _, hl, _ => by simp at hl
  | _ :: _, [], hl, _ => by simp at hl
theorem wl_xitems {B : Bd} {Γ : Ctx} {td : TE} {kl : List Rel → Prop} (h : WpQ B Γ td fun ks => kl (ks.map (rEnt B.K))) : WpL B Γ (tCB (rXItemsList B.P B.w) (tCons (tXItems B.P B.w B.K td) tNil)) kl := fun σ H E Q hQ =>
  h σ H E _ fun ks a es H1 hk ra hal e1 => ⟨a, es, rfl, ra, hal.keys, fun p hp => ⟨p, a, es, rfl, upd_same, Same.rd (Same.new hp) ra, fun H' l as e2 hl hn hL hT => by
    have e12 : Same H1 H' := Same.trans (Same.new hp) e2
    refine hQ _ l _ H' hk (Same.free e1 (Same.free (Same.new hp) hl)) (Same.trans e1 e12) hL (al_of (by rw [List.length_map, List.length_map, hn]; exact hal.length.symm) fun j r v hr hv => ?_)
    rw [List.getElem?_map] at hr hv
    cases hk1 : ks[j]? with
    | none => rw [hk1] at hr; cases hr
    | some kr =>
      rw [hk1] at hr
      cases hr
      cases ha : as[j]? with
      | none => rw [ha] at hv; cases hv
      | some b =>
        rw [ha] at hv
        cases hv
        obtain ⟨e, he, q1, q2, q3⟩ := pget2 hal hk1
        exact ⟨b, _, rfl, .inl (.inl (hT j b e ha he)), .cons (rKey_of (sqT_im (Same.im e12) q2)) (.cons (Rel.st _ (Same.im e12) q3) .nil)⟩⟩⟩

/-! ### dict(pairs) -/
def foldE (es : List DEnt) : List DEnt := es.foldl (fun acc e => putE acc e.1 e.2.1 e.2.2) []
def foldM {α : Type} (ks : List (List Int × α)) : List (List Int × α) := ks.foldl (fun acc e => putM acc e.1 e.2) []
theorem foldE_len (es : List DEnt) : ∀ acc : List DEnt, (es.foldl (fun acc e => putE acc e.1 e.2.1 e.2.2) acc).length ≤ acc.length + es.length := by
  induction es with
  | nil => intro acc; exact Nat.le_refl _
  | cons e es ih =>
    intro acc
    have h1 := ih (putE acc e.1 e.2.1 e.2.2)
    have h2 := putE_len acc e.1 e.2.1 e.2.2
    show (es.foldl _ (putE acc e.1 e.2.1 e.2.2)).length ≤ _
    rw [List.length_cons]
    omega
def rXPairs (P : Program) (w : World) (K : PySem.W.Frag) : List V → Hp → VK → Prop := fun xs H Q => ∃ (l : Addr) (ts : List Addr) (es : List DEnt), xs = [.ref l] ∧ SqL K H l (ts.map V.ref) ∧ Paired (fun t (e : DEnt) => SqT K H t [.ref e.2.1, e.2.2] ∧ SqT K H e.2.1 (e.1.map kV)) ts es ∧
  ∀ p, H p = none → Q (.ref p) (upd H p (DXO P w p (foldE es)))
theorem EX.fold {es : List DEnt} {xs : List (List Key × Addr × Value)} (r : EX es xs) : ∀ {es0 : List DEnt} {xs0 : List (List Key × Addr × Value)}, EX es0 xs0 → EX (es.foldl (fun acc e => putE acc e.1 e.2.1 e.2.2) es0) (storedAllH xs0 xs) := by
  induction r with
  | nil => intro es0 xs0 h; exact h
  | @cons p q ps qs h t ih =>
    intro es0 xs0 h0
    refine ih ?_
    obtain ⟨h1, h2, h3⟩ := h
    show EX (putE es0 p.1 p.2.1 p.2.2) (storedH xs0 q.1 q.2.1 q.2.2)
    rw [← h1, ← h2]
    exact h0.put p.1 h3
theorem cr_xpairs {X : Cx} (hc : X.calm = true) (hu : X.A.units + 64 < cLine) : CallR X (.type "dict") (rXPairs X.prog X.w X.K) := by
  intro pins s σ H xs us Q I r ⟨l, ts, es, ex, hl, hp, q⟩
  subst ex
  obtain rfl := Vals.ref1 r
  obtain ⟨its, rv, ⟨ol, nl, hol, hcl, hdl, hdatl⟩, hz⟩ := I.list hl
  have ei := refs_at rv
  subst ei
  rw [List.length_map] at hz
  have build : ∀ {ts : List Addr} {es : List DEnt}, Paired (fun t (e : DEnt) => SqT X.K H t [.ref e.2.1, e.2.2] ∧ SqT X.K H e.2.1 (e.1.map kV)) ts es →
      ∃ ps : List (List Key × Addr × Value), EX es ps ∧ ps.length = ts.length ∧ (∀ x ∈ ps, (tupleKind (mixKind X.prog X.w)).is s.heap x.1 x.2.1) ∧ ∀ (j : Nat) x, ps[j]? = some x → ∃ t, ts[j]? = some t ∧ s.heap.IsTuple t #[.ref x.2.1, x.2.2] := by
    intro ts es h
    induction h with
    | nil => exact ⟨[], .nil, rfl, (by intro _ h; cases h), (by intro j x e; simp at e)⟩
    | @cons t e l1 l2 h tl ih =>
      obtain ⟨ps, h1, h2, h3, h4⟩ := ih
      obtain ⟨its, rv, ht, _⟩ := I.tuple h.1
      obtain ⟨u, y, ei, ru, ry⟩ := vals2 rv
      subst ei
      cases (show u = Value.ref e.2.1 from ru)
      refine ⟨(e.1, e.2.1, y) :: ps, .cons ⟨rfl, rfl, ry⟩ h1, by rw [List.length_cons, List.length_cons, h2], fun x hx => ?_, fun j x ej => ?_⟩
      · rcases List.mem_cons.mp hx with rfl | hx
        · exact keyK I.hok I.kIn h.2
        · exact h3 x hx
      · cases j with
        | zero =>
          simp at ej
          subst ej
          exact ⟨t, rfl, ht⟩
        | succ j => exact h4 j x (by simpa using ej)
  obtain ⟨ps, e1, e2, e3, e4⟩ := build hp
  have hpi : PairItems s.heap (ts.map Value.ref).toArray (fun j => ts.getD j 0) (ps.map fun x => (Value.ref x.2.1, x.2.2)) := by
    refine ⟨by simp [e2], fun j k v hj => ?_⟩
    rw [List.getElem?_map] at hj
    cases hx : ps[j]? with
    | none => rw [hx] at hj; cases hj
    | some x =>
      rw [hx] at hj
      cases hj
      obtain ⟨t, ht, it⟩ := e4 j x hx
      have eg : ts.getD j 0 = t := by rw [List.getD_eq_getElem?_getD, ht]; rfl
      refine ⟨?_, .inl ?_⟩
      · show (ts.map Value.ref).toArray[j]? = _
        simp [ht]
      · show s.heap.IsTuple (ts.getD j 0) _
        rw [eg]
        exact it
  refine call_dict_pairsH (knd := tupleKind (mixKind X.prog X.w)) (ps := ps) (PairArg.list l (ts.map Value.ref).toArray (fun j => ts.getD j 0) (ps.map fun x => (Value.ref x.2.1, x.2.2))) (I.ok.hd hc) (tupleKind_room_in1 (A := X.A.in1) (by show X.A.units + 1 + 1 < cLine; omega))
    ⟨⟨ol, nl, hol, hcl, hdl, hdatl⟩, hpi⟩ ⟨by rw [List.length_map], fun i key v hr => ?_⟩ (fun h' hk x hx => ?_) (by rw [List.length_map, e2]; exact hz) fun h' tk hd' hk => ?_
  · have hr' : (ps.map fun x => (Value.ref x.2.1, x.2.2))[i]? = some (key, v) := hr
    rw [List.getElem?_map] at hr'
    cases hx : ps[i]? with
    | none => rw [hx] at hr'; cases hr'
    | some x =>
      rw [hx] at hr'
      cases hr'
      exact ⟨x.1, x.2.1, rfl, rfl⟩
  · obtain ⟨o, items, n, ho, r⟩ := e3 x hx
    exact ⟨o, items, n, hk _ _ (Nat.ne_of_lt (Heap.lt_size ho)) (by simp) ho, r⟩
  · have hm : (s.heap.objs.size == sysModules) = false := beq_eq_false_iff_ne.mpr (Nat.ne_of_gt I.big)
    have hlen : (foldE es).length ≤ sizeLine := by
      have h1 := foldE_len es []
      have h2 : ts.length = es.length := Paired.length hp
      unfold foldE
      simp only [List.length_nil] at h1
      omega
    exact ⟨.ref s.heap.objs.size, upd H s.heap.objs.size (DXO X.prog X.w s.heap.objs.size (foldE es)), I.laid (t' := tk) (fun b o e => hk b o (by simp) e) (Nat.le_refl _) (dx_ok hlen hm (EX.fold e1 .nil) hd'), rfl, q _ (I.hok.fresh (Nat.le_refl _))⟩
theorem AlX.fold {K : PySem.W.Frag} {H : Hp} {ks : List (List Int × Rel)} {es : List DEnt} (h : AlX K H ks es) : ∀ {k0 : List (List Int × Rel)} {e0 : List DEnt}, AlX K H k0 e0 → AlX K H (ks.foldl (fun acc e => putM acc e.1 e.2) k0) (es.foldl (fun acc e => putE acc e.1 e.2.1 e.2.2) e0) := by
  induction h with
  | nil => intro k0 e0 h; exact h
  | @cons p q l1 l2 h t ih =>
    intro k0 e0 h0
    refine ih ?_
    obtain ⟨h1, h2, h3⟩ := h
    show AlX K H (putM k0 p.1 p.2) (putE e0 q.1 q.2.1 q.2.2)
    rw [← h1]
    exact h0.put (by rw [ik_kV]; exact h2) h3
theorem wx_xpairs {B : Bd} {Γ : Ctx} {te : TE} {kx : List (List Int × Rel) → Prop} (h : WpE B Γ te fun r => ∃ ks, r = rLst (ks.map (rEnt B.K)) ∧ kx (foldM ks)) : WpX B Γ (tCB (rXPairs B.P B.w B.K) (tCons te tNil)) kx := fun σ H E Q hQ =>
  h σ H E _ fun r v H1 ⟨ks, er, hk⟩ p e1 => by
    subst er
    obtain ⟨l, o, xs, rfl, hl, hal⟩ := p
    obtain ⟨ts, es, ex, hp, hx⟩ : ∃ (ts : List Addr) (es : List DEnt), xs = ts.map V.ref ∧ Paired (fun t (e : DEnt) => SqT B.K H1 t [.ref e.2.1, e.2.2] ∧ SqT B.K H1 e.2.1 (e.1.map kV)) ts es ∧ AlX B.K H1 ks es := by
      clear hk hl
      have key : ∀ {ks : List (List Int × Rel)} {xs : List V}, Al H1 (ks.map (rEnt B.K)) xs → ∃ (ts : List Addr) (es : List DEnt), xs = ts.map V.ref ∧ Paired (fun t (e : DEnt) => SqT B.K H1 t [.ref e.2.1, e.2.2] ∧ SqT B.K H1 e.2.1 (e.1.map kV)) ts es ∧ AlX B.K H1 ks es := by
        intro ks
        induction ks with
        | nil => intro xs h; cases h; exact ⟨[], [], rfl, .nil, .nil⟩
        | cons p ks ih =>
          intro xs h
          rw [List.map_cons] at h
          cases h with
          | cons h t =>
            obtain ⟨ts, es, e1, e2, e3⟩ := ih t
            obtain ⟨a, ys, rfl, hs, hy⟩ := h
            cases hy with
            | cons k1 t1 =>
              cases t1 with
              | cons k2 t2 =>
                cases t2
                obtain ⟨b, rfl, hb⟩ := rKey_at k1
                refine ⟨a :: ts, (ik p.1, b, _) :: es, by rw [List.map_cons, e1], .cons ⟨hs, hb⟩ e2, .cons ⟨rfl, by rw [ik_kV] at hb; exact hb, k2⟩ e3⟩
      exact key hal
    subst ex
    refine ⟨l, ts, es, rfl, .inl (.inr ⟨o, hl⟩), hp, fun p hp' => hQ _ p _ _ hk (Same.free e1 hp') (Same.trans e1 (Same.new hp')) upd_same ?_⟩
    exact AlX.st (Same.im (Same.new hp')) (AlX.fold hx .nil)
end BX
set_option Elab.async false
set_option linter.all false
set_option maxRecDepth 100000
set_option maxHeartbeats 1000000
/-! BXh: comprehensions, displays, == of dicts whose keys are tuples of ints. -/
namespace BX
open PySem PySem.Spec PyProof.Rows L2

theorem x_dictSet {X : Cx} {pins : List (Addr × Obj)} {σ : L2.St} {H : Hp} {s : Shared} {E : Value → Shared → Prop} {D b : Addr} {es : List DEnt} {k : List Key} {v : V} {u r : Value} {Q : Unit → Shared → Prop} (hu : X.A.units + 64 < cLine) (I : Inv X pins σ H s) (g : H D = some (DXO X.prog X.w D es)) (hk : KeysAt X.K H es) (hz : es.length < sizeLine)
    (kb : SqT X.K H b (k.map kV)) (ry : RelV (.ref b) u) (rv : RelV v r) (h : ∀ s', Inv X pins σ (upd H D (DXO X.prog X.w D (putE es k b v))) s' → Q () s') : wpAny (model X.prog X.w) X.A (dictSet D u r) Q E s := by
  obtain rfl : u = Value.ref b := ry
  obtain ⟨z, hd, xs, rel, dd⟩ := dx_rd I.hok I.kIn (.inl g) hk
  have hl : (putE es k b v).length ≤ sizeLine := by have := putE_len es k b v; omega
  refine wpAny_dictSet_heap (hsz := by rw [← Paired.length rel]; exact z) ((by show X.A.units < cLine; omega)) (keyK I.hok I.kIn kb) dd fun h' dd' hs => h _ ?_
  obtain ⟨q, os, ep, hq, h2⟩ := id dd'
  exact d_write I (by rw [g]; exact True.intro) hs ⟨q, hq⟩ (dx_ok hl hd (rel.put k rv) dd')
section
variable {X : Cx}
/-- {k: v for target in iter if ..} -/
def tXDc (P : Program) (w : World) (K : PySem.W.Frag) (wi : TI) (g : TG) (tt : TT) (tk tv : TE) (vs : List Nat) : TE := fun σ H Q => wi σ H fun J H1 => ∀ D, H1 D = none → ∃ W : Nat → Nat → Hp → Prop, (∃ m, W 0 m (upd H1 D (DXO P w D []))) ∧ ∀ i m H, W i m H →
  (J.stop i H ∧ Q (.ref D) H) ∨ (J.go i H ∧ ∃ Nx : Hp → Prop, (∀ H', Nx H' → ∃ m', m' < m ∧ W (i + 1) m' H') ∧ ∀ x H', J.yld i H x H' → g x (wipe σ vs) H' fun σ2 H2 => wipe σ2 vs = wipe σ vs ∧ tt σ2 H2 fun b H3 =>
    if b = true then tk σ2 H3 fun y H4 => tv σ2 H4 fun z H5 => ∃ es b k, y = .ref b ∧ SqT K H5 b (k.map kV) ∧ KeysAt K H5 es ∧ H5 D = some (DXO P w D es) ∧ es.length < sizeLine ∧ Nx (upd H5 D (DXO P w D (putE es k b z))) else Nx H3)
theorem xdc_core {pins : List (Addr × Obj)} {s : Shared} {σ : L2.St} {H : Hp} {Q : VK} {kx vx tg iter : Expr} {ifs : List Expr} {scope : Scope} {own : List (Str × Nat)} {pos pos' : Pos} {wi : TI} {g : TG} {tt : TT} {tk tv : TE} {use : Option (Value → Sem Unit)} {Qf : Value → Shared → Prop}
    (hu : X.A.units + 64 < cLine) (hc : X.calm = true) (hN : X.N.Nodup) (I : Inv X pins σ H s) (hi : PI X tg iter wi) (ok : BlkOk X.N X.env.scope scope own)
    (hg : ∀ (s : Shared) (H : Hp) (C : Addr) (cl : List (Str × Addr)) (fp : List Addr), PG (X.blk s H scope (compEnvC scope cl C X.env) fp) tg g) (ht : ∀ (s : Shared) (H : Hp) (C : Addr) (cl : List (Str × Addr)) (fp : List Addr), PTs (X.blk s H scope (compEnvC scope cl C X.env) fp) ifs tt)
    (hk : ∀ (s : Shared) (H : Hp) (C : Addr) (cl : List (Str × Addr)) (fp : List Addr), PE (X.blk s H scope (compEnvC scope cl C X.env) fp) kx tk)
    (he : ∀ (s : Shared) (H : Hp) (C : Addr) (cl : List (Str × Addr)) (fp : List Addr), PE (X.blk s H scope (compEnvC scope cl C X.env) fp) vx tv) (hs : ∀ x, foldedSetIterable iter X.env x = pure x)
    (h : tXDc X.prog X.w X.K wi g tt tk tv (own.map (·.2)) σ H Q)
    (hRR : ∀ D C s' m H', Inv X pins σ H' s' → Q (.ref D) H' → s'.heap.Ns C m → FpOk X pins H' C → compPost (model X.prog X.w) X.A X.xe use Qf (.ref D) C (.ok .next) s') :
    wpAny (model X.prog X.w) X.A (comprehension (.DictComp kx vx [⟨tg, iter, ifs, 0⟩] scope pos) scope X.env pos' newDict false (eval iter X.env) use) Qf X.xe s := by
  have hfree : ∀ y ∈ scope.names, y.2 = .free → ∃ c, X.env.cells.lookup y.1 = some c := fun y hy e => by
    rcases ok.free y hy e with k | k
    · exact I.ok.has _ (.inl k)
    · exact I.ok.has _ (.inr k)
  refine wpAny_comprehension_free (use := use) rfl hs (closure_ok hfree) ok.kind (fun y hy e => by rw [ok.uniq y hy, e])
    (thn (hi.run pins s σ H _ I h) fun xv s1 hx => thn hx fun itv s2 h2 => ?_)
  obtain ⟨it, fp, tn, J, H2, e, I2, T, st2, f2, q⟩ := h2
  subst e
  refine wpAny_newObj_type (newEnv_comp ?_)
  generalize hD : s2.heap.objs.size = D
  have hDn : H2 D = none := I2.hok.fresh (Nat.le_of_eq hD)
  obtain ⟨W, ⟨m0, w0⟩, turn⟩ := q D hDn
  -- the new list
  generalize hs3 : ({ s2 with heap := s2.heap.push { cls := .type "dict", data := .dict #[] } } : Shared) = s3
  have I3 : Inv X pins σ (upd H2 D (DXO X.prog X.w D [])) s3 := by
    rw [← hs3]
    refine I2.laid (t' := s2.toks) (fun b o e => Heap.get?_push_of_some _ e) (Nat.le_of_eq hD) ?_
    rw [← hD]
    exact dx_empty s2.heap I2.big
  have h3 : s3.heap = s2.heap.push { cls := .type "dict", data := .dict #[] } := by rw [← hs3]
  have sz : ∀ b ∈ fp, b < s2.heap.objs.size := fun b hb => by
    obtain ⟨o, e, _⟩ := T.obj _ _ st2 b hb
    exact Heap.lt_size e
  have f3 : ∀ b ∈ fp, FpOk X pins (upd H2 D (DXO X.prog X.w D [])) b ∧ b < s3.heap.objs.size := fun b hb => by
    have hlt := sz b hb
    refine ⟨⟨?_, (f2 b hb).2⟩, by rw [h3, Heap.size_push]; exact Nat.lt_succ_of_lt hlt⟩
    rw [upd_ne (by rw [← hD]; exact Nat.ne_of_lt hlt)]
    exact (f2 b hb).1
  have st3 : tn 0 s3.heap := T.keep _ _ _ st2 fun b _ o e => by rw [h3]; exact Heap.get?_push_of_some _ e
  have I4 := block_start I3 ok hN f3
  have pg := hg s3 (upd H2 D (DXO X.prog X.w D [])) s3.heap.objs.size (cellsFrom (s3.heap.objs.size + 1) scope.names (cloFrom X.env.cells scope.names [])) fp
  have pt := ht s3 (upd H2 D (DXO X.prog X.w D [])) s3.heap.objs.size (cellsFrom (s3.heap.objs.size + 1) scope.names (cloFrom X.env.cells scope.names [])) fp
  have pk := hk s3 (upd H2 D (DXO X.prog X.w D [])) s3.heap.objs.size (cellsFrom (s3.heap.objs.size + 1) scope.names (cloFrom X.env.cells scope.names [])) fp
  have pe := he s3 (upd H2 D (DXO X.prog X.w D [])) s3.heap.objs.size (cellsFrom (s3.heap.objs.size + 1) scope.names (cloFrom X.env.cells scope.names [])) fp
  show codeAny _ _ (.compStart (.DictComp kx vx [⟨tg, iter, ifs, 0⟩] scope pos) 0 (.ref it) (.ref D) (compEnvC scope (cellsFrom (s3.heap.objs.size + 1) scope.names (cloFrom X.env.cells scope.names [])) s3.heap.objs.size X.env)) (compPost (model X.prog X.w) X.A X.xe use Qf (.ref D) s3.heap.objs.size) { s3 with heap := pushCells (s3.heap.push { cls := .type "dict", data := .dict #[] }) scope.names }
  have nfp : ∀ b ∈ fp, (upd H2 D (DXO X.prog X.w D [])) b = none := fun b hb => (f3 b hb).1.1
  generalize hce : compEnvC scope (cellsFrom (s3.heap.objs.size + 1) scope.names (cloFrom X.env.cells scope.names [])) s3.heap.objs.size X.env = ce at I4 pg pt pk pe ⊢
  have cL : ce.locals = s3.heap.objs.size := by subst hce; rfl
  generalize hH3 : upd H2 D (DXO X.prog X.w D []) = H3 at I3 I4 pg pt pk pe w0 nfp f3
  generalize hs4 : ({ s3 with heap := pushCells (s3.heap.push { cls := .type "dict", data := .dict #[] }) scope.names } : Shared) = s4 at I4 ⊢
  have st4 : tn 0 s4.heap := T.keep _ _ _ st3 fun b _ o e => by rw [← hs4]; exact pushCells_keeps _ _ _ _ (Heap.get?_push_of_some _ e)
  have stat : ∀ {σ' : L2.St} {H' : Hp} {s' : Shared}, Inv (X.blk s3 H3 scope ce fp) [] σ' H' s' → (∀ b ∈ fp, H' b = none) → ∀ b ∈ fp, FpOk (X.blk s3 H3 scope ce fp) [] H' b := fun {σ' H' s'} I' hn b hb =>
    ⟨hn b hb, (I'.ok.exf b hb).1, I'.ok.exfs b hb, .inl hb, fun x c e => (I'.ok.exf b hb).2 x c e, fun p hp => absurd (show p ∈ ([] : List (Addr × Obj)) ++ [] from hp) (by simp)⟩
  have loop : codeAny (model X.prog X.w) X.A (.compLoop (.DictComp kx vx [⟨tg, iter, ifs, 0⟩] scope pos) 0 (.ref it) (.ref D) ce) (compPost (model X.prog X.w) X.A X.xe use Qf (.ref D) s3.heap.objs.size) s4 := by
    refine compLoop_anyD (fun n s' => ∃ i H', Inv (X.blk s3 H3 scope ce fp) [] (wipe σ (own.map (·.2))) H' s' ∧ tn i s'.heap ∧ (∀ b ∈ fp, H' b = none) ∧ W i n H') ?_ m0 ⟨0, H3, I4, st4, nfp, w0⟩
    rintro n s5 ⟨i, H5, I5, st5, n5, w5⟩
    rcases turn i n H5 w5 with ⟨stop, qq⟩ | ⟨go, Nx, hNx, step⟩
    · have td := T.done (X.blk s3 H3 scope ce fp) rfl rfl rfl hc i [] s5 _ H5 (fun _ _ => False) I5 (stat I5 n5) st5 stop
      refine thnF td fun r s6 ⟨hr, I6⟩ => ?_
      subst hr
      -- back in the def's context
      have I7 : Inv X pins σ H5 s6 := I3.call' (ch := fp) I6.os I6.base I6.hok I6.bare fun b hb => ⟨(f3 b hb).1.2.2.2.1, (f3 b hb).1.2.1, (f3 b hb).1.2.2.2.2.1, (f3 b hb).1.2.2.2.2.2⟩
      have nC : H5 s3.heap.objs.size = none := by
        have z : H5 ce.locals = none := I6.free
        rw [cL] at z
        exact z
      obtain ⟨m, hn, _⟩ := I6.loc
      have hn : s6.heap.Ns ce.locals m := hn
      rw [cL] at hn
      exact hRR D s3.heap.objs.size s6 m H5 I7 qq hn (I3.fpOk (Nat.le_refl _) nC)
    · have ti := T.item (X.blk s3 H3 scope ce fp) rfl rfl rfl hc i [] s5 _ H5 (fun _ _ => False) I5 (stat I5 n5) st5 go
      refine thnF ti fun r s6 ⟨u, hr, h6⟩ => ?_
      subst hr
      refine thnF h6 fun _ s7 ⟨x, H7, I7, r7, y7, st7, n7⟩ => ?_
      have I7' := I7.pinned (stat I7 n7) (T.obj _ _ st7)
      refine thnF (pg.run _ s7 _ H7 x u _ I7' r7 (step x H7 y7)) fun _ s8 ⟨σ8, H8, I8, hw8, q8⟩ => ?_
      refine thnF (pt.run _ s8 σ8 H8 _ I8 q8) fun b s9 ⟨H9, I9, q9⟩ => ?_
      -- the turn's end
      have fin : ∀ {s' : Shared} {H' : Hp}, Inv (X.blk s3 H3 scope ce fp) ([] ++ pinsAt fp s7.heap) σ8 H' s' → Nx H' → ∃ m, m < n ∧ ∃ i H', Inv (X.blk s3 H3 scope ce fp) [] (wipe σ (own.map (·.2))) H' s' ∧ tn i s'.heap ∧ (∀ b ∈ fp, H' b = none) ∧ W i m H' := fun {s' H'} I' nx => by
        obtain ⟨m', hm, w'⟩ := hNx H' nx
        have pin' : ∀ b ∈ fp, ∀ o, s7.heap.get? b = some o → s'.heap.get? b = some o ∧ H' b = none := fun b hb o e =>
          let z := I'.pin (b, o) (List.mem_append_right _ (List.mem_append_right _ (mem_pinsAt hb e)))
          ⟨z.1, z.2.1⟩
        have hl : (wipe σ (own.map (·.2))).length = σ8.length := by rw [← hw8, wipe_length]
        refine ⟨m', hm, i + 1, H', (I'.unpinned (pins := [])).weak hl (fun j v e => ?_), T.keep _ _ _ st7 fun b hb o e => (pin' b hb o e).1, fun b hb => ?_, w'⟩
        · rw [← hw8] at e
          exact (wipe_some e).1
        · obtain ⟨o, e, _⟩ := T.obj _ _ st7 b hb
          exact (pin' b hb o e).2
      cases b with
      | false =>
        simp only [Bool.false_eq_true, if_false] at q9 ⊢
        exact fin I9 q9
      | true =>
        simp only [if_true] at q9 ⊢
        refine thnF (pk.run _ s9 σ8 H9 _ I9 q9) fun z s10 ⟨yk, H10, I10, r10, q10⟩ => ?_
        refine thnF (pe.run _ s10 σ8 H10 _ I10 q10) fun z2 s11 ⟨yv, H11, I11, r11, es, b, k, ek, hb11, hk11, hD11, hz11, nx⟩ => ?_
        subst ek
        exact x_dictSet (X := X.blk s3 H3 scope ce fp) hu I11 hD11 hk11 hz11 hb11 r10 r11 fun s12 I12 => fin I12 nx
  exact codeAny_compStart_dict loop (T.self X.A 0 _ _ _ st4 loop)
theorem pe_xdc {kx vx tg iter : Expr} {ifs : List Expr} {scope : Scope} {own : List (Str × Nat)} {pos : Pos} {wi : TI} {g : TG} {tt : TT} {tk tv : TE} (hu : X.A.units + 64 < cLine) (hc : X.calm = true) (hN : X.N.Nodup) (hi : PI X tg iter wi) (ok : BlkOk X.N X.env.scope scope own)
    (hg : ∀ (s : Shared) (H : Hp) (C : Addr) (cl : List (Str × Addr)) (fp : List Addr), PG (X.blk s H scope (compEnvC scope cl C X.env) fp) tg g) (ht : ∀ (s : Shared) (H : Hp) (C : Addr) (cl : List (Str × Addr)) (fp : List Addr), PTs (X.blk s H scope (compEnvC scope cl C X.env) fp) ifs tt)
    (hk : ∀ (s : Shared) (H : Hp) (C : Addr) (cl : List (Str × Addr)) (fp : List Addr), PE (X.blk s H scope (compEnvC scope cl C X.env) fp) kx tk)
    (he : ∀ (s : Shared) (H : Hp) (C : Addr) (cl : List (Str × Addr)) (fp : List Addr), PE (X.blk s H scope (compEnvC scope cl C X.env) fp) vx tv) (hs : ∀ x, foldedSetIterable iter X.env x = pure x := by intro _; rfl) :
    PE X (.DictComp kx vx [⟨tg, iter, ifs, 0⟩] scope pos) (tXDc X.prog X.w X.K wi g tt tk tv (own.map (·.2))) := by
  refine ⟨fun pins s σ H Q I h => ?_⟩
  rw [arm_eval_DictComp]
  refine xdc_core hu hc hN I hi ok hg ht hk he hs h fun D C s' m H' I' q hn f => ⟨m, hn, fun h'' sb => ?_⟩
  obtain ⟨f0, f1, f2, f3, f4, f5⟩ := f
  exact ⟨.ref D, H', I'.turned (t' := s'.toks) (fun b o hb e => (sb.2 b hb).trans e) f0 f1 f3 f4 f5, rfl, q⟩
theorem ps_setXDc {i : Nat} {y : Str} {py : Pos} {kx vx tg iter : Expr} {ifs : List Expr} {scope : Scope} {own : List (Str × Nat)} {pos spos : Pos} {wi : TI} {g : TG} {tt : TT} {tk tv : TE} (hu : X.A.units + 64 < cLine) (hc : X.calm = true) (hN : X.N.Nodup) (hy : X.N[i]? = some y) (hyl : X.env.scope.names.lookup y = some .local)
    (hsw : swapsWith (.DictComp kx vx [⟨tg, iter, ifs, 0⟩] scope pos) (some (.Name y py)) spos.line X.env = pure true) (hi : PI X tg iter wi) (ok : BlkOk X.N X.env.scope scope own)
    (hg : ∀ (s : Shared) (H : Hp) (C : Addr) (cl : List (Str × Addr)) (fp : List Addr), PG (X.blk s H scope (compEnvC scope cl C X.env) fp) tg g) (ht : ∀ (s : Shared) (H : Hp) (C : Addr) (cl : List (Str × Addr)) (fp : List Addr), PTs (X.blk s H scope (compEnvC scope cl C X.env) fp) ifs tt)
    (hk : ∀ (s : Shared) (H : Hp) (C : Addr) (cl : List (Str × Addr)) (fp : List Addr), PE (X.blk s H scope (compEnvC scope cl C X.env) fp) kx tk)
    (he : ∀ (s : Shared) (H : Hp) (C : Addr) (cl : List (Str × Addr)) (fp : List Addr), PE (X.blk s H scope (compEnvC scope cl C X.env) fp) vx tv) (hs : ∀ x, foldedSetIterable iter X.env x = pure x := by intro _; rfl) :
    PS X (.Assign [.Name y py] (.DictComp kx vx [⟨tg, iter, ifs, 0⟩] scope pos) spos) (tAsg (tXDc X.prog X.w X.K wi g tt tk tv (own.map (·.2))) (gName i)) := by
  refine ⟨fun pins s σ H D I h => ?_⟩
  rw [exec_Assign_Name_used _ _ _ _ hsw]
  refine wpAny_bind (wpAny_standAt (wpAny_bind ?_))
  show wpAny _ X.A (do let _ ← comprehension (.DictComp kx vx [⟨tg, iter, ifs, 0⟩] scope pos) scope X.env (firstIterPos [⟨tg, iter, ifs, 0⟩] pos) newDict false (eval iter X.env) (some (assign (.Name y py) X.env))) _ _ s
  have h : tXDc X.prog X.w X.K wi g tt tk tv (own.map (·.2)) σ H (fun x H1 => gName i x σ H1 D.nx) := h
  refine wpAny_bind (thn (xdc_core (Qf := fun _ s' => SP X pins D .next s') hu hc hN I hi ok hg ht hk he hs h fun L C s' m H' I' q hn f => ?_) fun _ s' hq => wpAny_pure (wpAny_pure hq))
  show wpAny _ _ (assign (.Name y py) X.env (.ref L)) _ _ _
  refine wpAny_assign_Name (store_ok2 (v := V.ref L) I' hN hy (.inl hyl) rfl (fun s2 I2 ⟨a, sb, ha⟩ => ?_) (.inr hyl))
  obtain ⟨f0, f1, f2, f3, f4, f5⟩ := f
  have haC : C ≠ a := by
    rcases ha with z | z
    · rw [z]; exact f1
    · exact fun e => f4 y a z e.symm
  refine ⟨m, hn.sameBut sb haC, fun h3 sb3 => ?_⟩
  exact ⟨_, H', I2.turned (t' := s2.toks) (fun b o hb e => (sb3.2 b hb).trans e) f0 f1 f3 f4 f5, q⟩
theorem sw_trueD {kx vx : Expr} {gs : List Comprehension} {scope : Scope} {pos py : Pos} {y : Str} {l : Nat} {env : PySem.Env} (hk : env.scope.kind = .function) (hy : env.scope.names.lookup y = some .local) (hl : (py.line == pos.line) = true)
    (ha : (scope.names.any fun (n, k) => n == y && (k == .local || k == .cell)) = false) : swapsWith (.DictComp kx vx gs scope pos) (some (.Name y py)) l env = pure true := by
  have ky : env.kindOf y = some .local := hy
  have hb : env.blockKind = .function := by unfold Env.blockKind; rw [hk]; rfl
  unfold swapsWith
  simp only [hb, ky, ha, Expr.pos, hl]
  rfl
end

/-! ### displays -/
def tXDisp (P : Program) (w : World) (K : PySem.W.Frag) (trs : List (TE × TE)) : TE := fun σ H Q => ∀ p, H p = none → tPairs trs σ (upd H p (DXO P w p [])) fun ps H2 => H2 p = some (DXO P w p []) ∧ ∃ es : List DEnt, ps = es.map (fun e => (V.ref e.2.1, e.2.2)) ∧ KeysAt K H2 es ∧ es.length ≤ 15 ∧ Q (.ref p) (upd H2 p (DXO P w p (foldE es)))
theorem carriesX {X : Cx} {pins : List (Addr × Obj)} {σ : L2.St} {H : Hp} {s : Shared} (I : Inv X pins σ H s) : ∀ {es : List DEnt} {ws : List (Value × Value)}, KeysAt X.K H es → VV (es.map fun e => (V.ref e.2.1, e.2.2)) ws → ∃ rs, CarriesH (tupleKind (mixKind X.prog X.w)) s.heap ws rs ∧ EX es rs
  | [], _, _, r => by rw [List.map_nil] at r; cases r; exact ⟨[], True.intro, .nil⟩
  | p :: es, _, ka, r => by
    rw [List.map_cons] at r
    cases r with
    | @cons a b as bs h t =>
      obtain ⟨rs, c, q⟩ := carriesX I (fun e he => ka e (List.mem_cons_of_mem _ he)) t
      obtain ⟨b1, b2⟩ := b
      exact ⟨(p.1, p.2.1, b2) :: rs, ⟨h.1, rfl, keyK I.hok I.kIn (ka p (List.mem_cons_self ..)), c⟩, .cons ⟨rfl, rfl, h.2⟩ q⟩
theorem pe_xdisp {X : Cx} {pos : Pos} {keys : List (Option Expr)} {values : List Expr} {trs : List (TE × TE)} (hu : X.A.units + 64 < cLine) (h : PPs X pos keys values trs) (hall : keys.all (·.isSome) = true) (hl : keys.length = values.length) (h0 : keys ≠ [])
    (h15 : keys.length ≤ 15) : PE X (.Dict keys values pos) (tXDisp X.prog X.w X.K trs) := by
  refine ⟨fun pins s σ H Q I q => ?_⟩
  have hn := I.hok.fresh (Nat.le_refl s.heap.objs.size)
  have I1 := I.laid (a := s.heap.objs.size) (o := DXO X.prog X.w s.heap.objs.size []) (h' := s.heap.push { cls := .type "dict", data := .dict #[] }) (t' := s.toks) (fun _ _ q => Heap.get?_push_of_some _ q) (Nat.le_refl _) (dx_empty s.heap I.big)
  have hm := pairTrees_length keys values X.env pos hall hl
  have hp0 : pairTrees keys values X.env pos ≠ [] := fun he => h0 (List.length_eq_zero_iff.mp (by rw [← hm, he]; rfl))
  rw [arm_eval_Dict, zip_pairTrees keys values X.env pos hall hl, dictDisplay_pairs _ hp0 (by omega)]
  refine wpAny_bind (wpAny_standAt (wpAny_bind (wpAny_subDictH (knd := tupleKind (mixKind X.prog X.w)) (Q := fun d s' => wpAny (model X.prog X.w) X.A (pure (Value.ref d)) _ X.xe s') (by show X.A.units < cLine; omega) (by rw [hm]; exact h15)
    (thn (h.run pins _ σ _ _ I1 (q _ hn)) fun ws s2 ⟨ps, H2, I2, rel, e, es, ep, ka, lk, q2⟩ => ?_))))
  subst ep
  obtain ⟨rs, c, rk⟩ := carriesX I2 ka rel
  obtain ⟨z, hd, vs0, r0, dd⟩ := dx_rd (es := []) I2.hok I2.kIn (.inl e) (fun _ hx => by cases hx)
  cases r0
  refine ⟨rs, c, dd, fun h' tk dd' hs => wpAny_pure ⟨.ref s.heap.objs.size, _, ?_, rfl, q2⟩⟩
  have hz : (foldE es).length ≤ sizeLine := by
    have h1 := foldE_len es []
    rw [List.length_nil] at h1
    unfold foldE
    rw [sizeLine_eq]; omega
  obtain ⟨q', os, ep, hq, h2⟩ := id dd'
  exact d_write I2 (by rw [e]; exact True.intro) hs ⟨q', hq⟩ (dx_ok hz hd (EX.fold rk .nil) dd')

/-- pairs of a display, by relations -/
def WpP (B : Bd) (Γ : Ctx) (trs : List (TE × TE)) (k : List (List Int × Rel) → Prop) : Prop :=
  ∀ σ H, Env B Γ σ H → ∀ Q : List (V × V) → Hp → Prop, (∀ ks (es : List DEnt) H', k ks → AlX B.K H' ks es → Same H H' → Q (es.map fun e => (V.ref e.2.1, e.2.2)) H') → tPairs trs σ H Q
section
variable {B : Bd} {Γ : Ctx}
theorem wp_nil {k : List (List Int × Rel) → Prop} (q : k []) : WpP B Γ [] k := fun σ H E Q hQ => hQ [] [] H q .nil (Same.refl H)
theorem wp_cons {tk tv : TE} {trs : List (TE × TE)} {k : List (List Int × Rel) → Prop} (h : WpE B Γ tk fun r => ∃ kk, r = rKey B.K kk ∧ WpE B Γ tv fun rv => WpP B Γ trs fun ks => k ((kk, rv) :: ks)) : WpP B Γ ((tk, tv) :: trs) k := fun σ H E Q hQ =>
  h σ H E _ fun r x H1 ⟨kk, er, h1⟩ px e1 => h1 σ H1 (E.mono e1) _ fun rv y H2 h2 py e2 => h2 σ H2 (E.mono (Same.trans e1 e2)) _ fun ks es H3 hk hal e3 => by
    subst er
    have e13 := Same.trans e2 e3
    obtain ⟨b, rfl, hb⟩ := rKey_at (Rel.st _ (Same.im e13) px)
    exact hQ ((kk, rv) :: ks) ((ik kk, b, y) :: es) H3 hk (.cons ⟨rfl, by rw [ik_kV] at hb; exact hb, Rel.st _ (Same.im e3) py⟩ hal) (Same.trans e1 e13)
theorem wx_xdisp {trs : List (TE × TE)} {kx : List (List Int × Rel) → Prop} (h : WpP B Γ trs fun ks => ks.length ≤ 15 ∧ kx (foldM ks)) : WpX B Γ (tXDisp B.P B.w B.K trs) kx := fun σ H E Q hQ p hp =>
  h σ _ (E.mono (Same.new hp)) _ fun ks es H2 ⟨hl, hk⟩ hal e2 => by
    have hp2 : H2 p = some (DXO B.P B.w p []) := e2 _ _ upd_same
    have e3 : Same H (upd H2 p (DXO B.P B.w p (foldE es))) := Same.put (Same.trans (Same.new hp) e2) hp
    exact ⟨hp2, es, rfl, hal.keys, by rw [hal.length]; exact hl, hQ _ p _ _ hk hp e3 upd_same (AlX.st (Im.upd hp2 dx_c) (AlX.fold hal .nil))⟩

/-- A i ks: what the dict may hold behind i turns -/
theorem wx_xdc {wi : TI} {g : TG} {tt : TT} {tk tv : TE} {vs : List Nat} {kx : List (List Int × Rel) → Prop} (h : WpI B Γ wi fun n rs => ∃ A : Nat → List (List Int × Rel) → Prop, A 0 [] ∧
    (∀ i, i < n → ∀ ks, A i ks → ∀ G st, ∃ Γ2 js, (∀ j, j ∈ js → j ∈ vs) ∧ WpG (B.more G st) (wipeC Γ vs) g (rs i) js Γ2 ∧
      WpT (B.more G st) Γ2 tt fun b => (b = true → WpE (B.more G st) Γ2 tk fun r => ∃ kk, r = rKey B.K kk ∧ WpE (B.more G st) Γ2 tv fun rv => ks.length < sizeLine ∧ A (i + 1) (putM ks kk rv)) ∧ (b = false → A (i + 1) ks)) ∧
    ∀ ks, A n ks → kx ks) : WpX B Γ (tXDc B.P B.w B.K wi g tt tk tv vs) kx := fun σ H E Q hQ => by
  refine h σ H E _ fun J n rs G Y H1 ⟨A, h0, hs, hz⟩ e w hG im hY => ?_
  intro Dl hD
  have old : Env B (wipeC Γ vs) (wipe σ vs) H1 := (E.mono e).wipe vs
  refine ⟨fun i m H2 => m = n - i ∧ i ≤ n ∧ ∃ ks es, A i ks ∧ H2 Dl = some (DXO B.P B.w Dl es) ∧ AlX B.K H2 ks es ∧ Env (B.more G im) (wipeC Γ vs) (wipe σ vs) H2 ∧ Same H1 H2, ⟨n, by simp, Nat.zero_le _, [], [], h0, upd_same, .nil, ((old.mono (Same.new hD))).more (im _ _ (Same.im (Same.new hD)) hG), Same.new hD⟩, ?_⟩
  rintro i m H2 ⟨rfl, hi, ks, es, a, hl, hal, p, s1⟩
  by_cases hlt : i < n
  · refine .inr ⟨w.goes i H2 hlt p.fx.2, fun H' => ∃ ks es, A (i + 1) ks ∧ H' Dl = some (DXO B.P B.w Dl es) ∧ AlX B.K H' ks es ∧ Env (B.more G im) (wipeC Γ vs) (wipe σ vs) H' ∧ Same H1 H', fun H' q => ⟨n - (i + 1), by omega, rfl, hlt, q⟩, fun x H3 y => ?_⟩
    obtain ⟨e1, px⟩ := hY i H2 x H3 hlt p.fx.2 (w.yields i H2 x H3 hlt p.fx.2 y)
    obtain ⟨Γ2, js, hj, hg, ht⟩ := hs i hlt ks a G im
    refine hg _ H3 x (p.mono e1) px _ fun σ2 H4 E2 e2 hk hlen => ⟨?_, ?_⟩
    · exact (wipe_of hlen fun j hjn => hk j fun z => hjn (hj j z)).trans (wipe_of (wipe_length σ vs) fun j hjn => wipe_out hjn)
    · refine ht σ2 H4 E2 _ fun b H5 ⟨q1, q2⟩ e3 => ?_
      have e13 : Same H2 H5 := Same.trans e1 (Same.trans e2 e3)
      cases b with
      | true =>
        refine iteT (q1 rfl σ2 H5 (E2.mono e3) _ fun r v H6 ⟨kk, er, hv⟩ pv e4 => hv σ2 H6 ((E2.mono e3).mono e4) _ fun rv v' H7 ⟨hz', a'⟩ pv' e5 => ?_)
        subst er
        have e47 := Same.trans e4 e5
        have e17 : Same H2 H7 := Same.trans e13 e47
        have hl7 := e17 _ _ hl
        have hal7 := hal.st (Same.im e17)
        obtain ⟨b, rfl, hb⟩ := rKey_at (Rel.st _ (Same.im e5) pv)
        refine ⟨es, b, ik kk, rfl, hb, hal7.keys, hl7, by rw [hal.length]; exact hz', putM ks kk rv, _, a', upd_same, AlX.st (Im.upd hl7 dx_c) (hal7.put hb pv'), ?_, Same.put (Same.trans s1 e17) hD⟩
        have p7 := p.mono e17
        have h0n : B.H0 Dl = none := by
          have z : Same B.H0 H1 := Same.trans E.ex e
          exact Same.free z hD
        refine ⟨p7.len, Same.put p7.ex h0n, (B.more G im).fs _ _ (Im.upd hl7 dx_c) p7.fx, fun j t ej => ?_, p7.dis⟩
        obtain ⟨ov, z1, z2⟩ := p7.ty j t ej
        obtain ⟨ov', y1, y2⟩ := old.ty j t ej
        rw [z1] at y1
        cases y1
        refine ⟨ov, z1, ?_⟩
        cases t with
        | no => trivial
        | im r => obtain ⟨v, c1, c2⟩ := z2; exact ⟨v, c1, r.st (Im.upd hl7 dx_c) c2⟩
        | ml rs =>
          obtain ⟨l, ys, c1, c2, c3, c4⟩ := z2
          obtain ⟨l', ys', d1, d2, d3, d4⟩ := y2
          subst c1
          cases d1
          refine ⟨l, ys, rfl, c2, ?_, c4.st (Im.upd hl7 dx_c)⟩
          rw [upd_ne (fun z => by rw [z, hD] at d3; cases d3)]
          exact c3
        | mx ks =>
          obtain ⟨l, ys, c1, c2, c3, c4⟩ := z2
          obtain ⟨l', ys', d1, d2, d3, d4⟩ := y2
          subst c1
          cases d1
          refine ⟨l, ys, rfl, c2, ?_, c4.st (Im.upd hl7 dx_c)⟩
          rw [upd_ne (fun z => by rw [z, hD] at d3; cases d3)]
          exact c3
      | false => exact iteF ⟨ks, es, q2 rfl, e13 _ _ hl, hal.st (Same.im e13), p.mono e13, Same.trans s1 e13⟩
  · have en : i = n := by omega
    subst en
    exact .inl ⟨w.stops H2 p.fx.2, hQ ks Dl es H2 (hz ks a) (Same.free e hD) (Same.trans e s1) hl hal⟩
end

/-! ### two dicts with the same entries are equal -/
section
variable {prog : Program} {w : World} {K : Type} [DecidableEq K] {knd : HeapKind prog w K} {A : Around} {E : Value → Shared → Prop} {s : Shared}
theorem same_pairsX {nm : String} {a b : Addr} {xs ys : List (K × Addr × Value)} {Q : Bool → Shared → Prop} (hu : knd.room A) (ha : (a == sysModules) = false) (hb : (b == sysModules) = false)
    (da : s.heap.DictOfH knd a xs) (db : s.heap.DictOfH knd b ys) (hl : xs.length = ys.length)
    (hits : ∀ (i : Nat) k p v, xs[i]? = some (k, p, v) → (∃ (j : Nat) (q : Addr × Value), ys[j]? = some (k, q)) ∧ ∀ (j : Nat) (q : Addr × Value), ys[j]? = some (k, q) → PySem.SeqAt.EqP prog w A s v q.2 true) (h : Q true s) :
    wpAny (model prog w) A (Builtin.Dict.samePairs nm a b) Q E s := by
  obtain ⟨oa, es, ep, hoa, _, hda, hea, hia, hna⟩ := da
  obtain ⟨ob, es', ep', hob, _, hdb, heb, hib, hnb⟩ := db
  have hla : es.size = xs.length := size_of_entries hea
  have hlb : es'.size = ys.length := size_of_entries heb
  have hsz : es.size = es'.size := by omega
  unfold Builtin.Dict.samePairs Builtin.Dict.showsAll
  rw [if_neg (show ¬ (a == sysModules) = true by rw [ha]; exact Bool.false_ne_true), if_neg (show ¬ (b == sysModules) = true by rw [hb]; exact Bool.false_ne_true)]
  refine wpAny_bind (wpAny_pure (wpAny_bind (wpAny_pure ?_)))
  refine wpAny_bind (wpAny_dictEntries hoa hda ?_)
  dsimp only
  refine wpAny_bind (wpAny_dictEntries hob hdb ?_)
  rw [if_neg (by rw [hsz]; simp)]
  refine wpAny_bind (wpAny_dictEpoch hoa hda ?_)
  refine wpAny_bind ?_
  rw [Std.Legacy.Range.forIn_eq_forIn_range']
  simp only [Std.Legacy.Range.size, Nat.sub_zero, Nat.add_sub_cancel, Nat.div_one]
  refine wpAny_forIn_list _ (fun rest q s' => s' = s ∧ q = (none, ()) ∧ ∃ i, rest = List.range' i (es.size - i) ∧ i ≤ es.size) _ ?_ ?_ _ _ ⟨rfl, rfl, 0, by simp, Nat.zero_le _⟩
  · rintro x rest q s' ⟨rfl, rfl, i, hr, hi⟩
    have hlt : i < es.size := by
      rcases Nat.lt_or_ge i es.size with h | h
      · exact h
      · rw [Nat.sub_eq_zero_of_le h] at hr; simp at hr
    obtain ⟨rfl, hrest⟩ : x = i ∧ rest = List.range' (i + 1) (es.size - (i + 1)) := by
      have e : es.size - i = (es.size - (i + 1)) + 1 := by omega
      rw [e, List.range'_succ] at hr
      injection hr with h1 h2
      exact ⟨h1, h2⟩
    refine wpAny_bind (wpAny_dictEntries hoa hda ?_)
    obtain ⟨⟨k, p, v⟩, hx⟩ : ∃ z, xs[x]? = some z := ⟨xs[x]'(by omega), List.getElem?_eq_getElem _⟩
    have he1 : es[x]? = some (entryOfKey knd (k, p, v)) := by rw [entry_at hea x, hx]; rfl
    rw [he1]
    obtain ⟨⟨j0, q0, hj0⟩, hq⟩ := hits x k p v hx
    show wpAny _ _ (holding [Value.ref p, v] _ >>= _) _ _ _
    refine wpAny_bind (wpAny_holding (wpAny_bind (wpAny_dictFind_heap hu (hia _ (List.mem_of_getElem? hx)) hob hdb heb hib hnb (fun hn => absurd hj0 (hn j0 q0)) fun j q hj => ?_)))
    have he2 : es'[j]? = some (entryOfKey knd (k, q)) := by rw [entry_at heb j, hj]; rfl
    refine wpAny_bind (wpAny_dictEntries hob hdb ?_)
    rw [he2]
    refine wpAny_holding ((hq j q hj) _ _ ?_)
    show wpAny _ _ (if (!true) = true then _ else _) _ _ _
    rw [if_neg (by decide)]
    refine wpAny_bind (wpAny_dictEpoch hoa hda ?_)
    rw [if_neg (by simp)]
    exact wpAny_pure ⟨rfl, rfl, x + 1, hrest, hlt⟩
  · rintro q s' ⟨rfl, rfl, i, hr, hi⟩
    exact wpAny_pure h
theorem keq_eqX {a b : Addr} {xs ys : List (K × Addr × Value)} {Q : Value → Shared → Prop} (hr : knd.room A.in1) (ha : (a == sysModules) = false) (hb : (b == sysModules) = false)
    (da : s.heap.DictOfH knd a xs) (db : s.heap.DictOfH knd b ys) (hu : A.units < cLine) (hl : xs.length = ys.length)
    (hits : ∀ (i : Nat) k p v, xs[i]? = some (k, p, v) → (∃ (j : Nat) (q : Addr × Value), ys[j]? = some (k, q)) ∧ ∀ (j : Nat) (q : Addr × Value), ys[j]? = some (k, q) → PySem.SeqAt.EqP prog w A.in1 s v q.2 true) (h : Q (.bool true) s) :
    wpAny (model prog w) A (compareOp .Eq (.ref a) (.ref b)) Q E s := by
  refine wpAny_richCompare_same_room (op := .Eq) da.typeIs db.typeIs PySem.F.slot_dict_eq (wpAny_call_entry PySem.F.slot_dict_eq da.typeIs PySem.F.entry_dict_eq ?_ (PySem.F.args_dict_eq_2 _ _)) hu
  show wpAny _ _ (Builtin.Dict.dictSlotArgs "__eq__" ⟨[.ref a, .ref b], []⟩ >>= _) _ _ s
  refine wpAny_bind ?_
  unfold Builtin.Dict.dictSlotArgs
  refine wpAny_bind (wpAny_notOrdered_dict da.typeIs ?_)
  show wpAny _ _ (pure (Value.ref a, Value.ref b)) _ _ s
  refine wpAny_pure ?_
  refine wpAny_bind (wpAny_isInstance (T := "dict") db.typeIs PySem.F.sub_dict_dict ?_)
  simp only [Bool.not_true, Bool.false_eq_true, if_false]
  refine wpAny_bind (wpAny_pure (wpAny_bind (wpAny_pure ?_)))
  refine wpAny_bind (same_pairsX hr ha hb da db hl hits ?_)
  refine wpAny_pure ⟨_, rfl, ?_, ?_⟩
  · exact fun x => nomatch x
  · simpa using h
end
def rXEq (P : Program) (w : World) (K : PySem.W.Frag) : R2 := fun x y H Q => ∃ a b es fs, x = .ref a ∧ y = .ref b ∧ Rd H a (DXO P w a es) ∧ Rd H b (DXO P w b fs) ∧ KeysAt K H es ∧ KeysAt K H fs ∧ es.length = fs.length ∧
  (∀ e ∈ es, ∃ i c, e.2.2 = .int i ∧ getM fs e.1 = some (c, .int i)) ∧ Q (.bl true) H
theorem at_nodup {κ : Type} [DecidableEq κ] : ∀ {ys : List (κ × Addr × Value)} {j : Nat} {k : κ} {q : Addr × Value}, (ys.map (·.1)).Nodup → ys[j]? = some (k, q) → atKey ys k = some q
  | [], _, _, _, _, h => by simp at h
  | y :: ys, j, k, q, nd, h => by
    rw [List.map_cons, List.nodup_cons] at nd
    cases j with
    | zero =>
      simp at h
      subst h
      simp [atKey, List.find?_cons]
    | succ j =>
      have h' : ys[j]? = some (k, q) := by simpa using h
      have ne : ¬ y.1 = k := fun z => nd.1 (by rw [z]; exact List.mem_map.mpr ⟨_, List.mem_of_getElem? h', rfl⟩)
      have ih := at_nodup nd.2 h'
      unfold atKey at ih ⊢
      rw [List.find?_cons]
      simp only [ne, decide_false]
      exact ih
theorem at_some {κ : Type} [DecidableEq κ] : ∀ {ys : List (κ × Addr × Value)} {k : κ} {q : Addr × Value}, atKey ys k = some q → ∃ j : Nat, ys[j]? = some (k, q)
  | [], _, _, h => by cases h
  | y :: ys, k, q, h => by
    by_cases e : y.1 = k
    · subst e
      simp [atKey, List.find?_cons] at h
      subst h
      exact ⟨0, rfl⟩
    · unfold atKey at h
      rw [List.find?_cons] at h
      simp only [e, decide_false] at h
      obtain ⟨j, hj⟩ := at_some (ys := ys) h
      exact ⟨j + 1, by simpa using hj⟩
theorem op_xeq {X : Cx} (hu : X.A.units + 64 < cLine) : OpR X (compareOp .Eq) (rXEq X.prog X.w X.K) := by
  intro pins s σ H x y v u Q I rx ry ⟨a, b, es, fs, ex, ey, ga, gb, ka, kb, hl, hv, q⟩
  subst ex ey
  obtain rfl : v = Value.ref a := rx
  obtain rfl : u = Value.ref b := ry
  obtain ⟨z, hd, xs, rel, dd⟩ := dx_rd I.hok I.kIn ga ka
  obtain ⟨z', hd', ys, rel', dd'⟩ := dx_rd I.hok I.kIn gb kb
  have nd : (ys.map (·.1)).Nodup := let ⟨_, _, _, _, _, _, _, _, n⟩ := dd'; n
  refine keq_eqX (tupleKind_room_in1 (A := X.A) (by omega)) hd hd' dd dd' (by omega) (by rw [← Paired.length rel, ← Paired.length rel']; exact hl) (fun i k p v hx => ?_) (fin_bl I q rfl)
  obtain ⟨e, he, h1, h2, h3⟩ : ∃ e, es[i]? = some e ∧ e.1 = k ∧ e.2.1 = p ∧ RelV e.2.2 v := by
    have hlt : i < es.length := by rw [Paired.length rel]; exact (List.getElem?_eq_some_iff.mp hx).1
    obtain ⟨b', hb', q1, q2, q3⟩ := pget2 rel (List.getElem?_eq_getElem hlt)
    rw [hx] at hb'
    cases hb'
    exact ⟨_, List.getElem?_eq_getElem hlt, q1, q2, q3⟩
  obtain ⟨n, c, en, hg⟩ := hv e (List.mem_of_getElem? he)
  have rv := rel'.val e.1
  rw [hg] at rv
  obtain ⟨y, hy, ry⟩ := RelO.some_of (v := V.int n) (o := (atKey ys e.1).map (·.2)) (show RelO (some (V.int n)) ((atKey ys e.1).map (·.2)) from rv)
  obtain ⟨q0, hq0, e0⟩ := Option.map_eq_some_iff.mp hy
  subst e0
  rw [h1] at hq0
  refine ⟨let ⟨j, hj⟩ := at_some hq0; ⟨j, q0, hj⟩, fun j q1 hj => ?_⟩
  have := at_nodup nd hj
  rw [hq0] at this
  cases this
  rw [en] at h3
  exact PySem.SeqAt.EqAt.eqP (eqAt_same h3 ry rfl)
theorem ot_xeq {B : Bd} {ks ls : List (List Int × Rel)} {k : Rel → Prop} (hl : ks.length = ls.length) (h : ∀ p ∈ ks, ∃ i, p.2 = rInt i ∧ getM ls p.1 = some (rInt i)) (q : k (rBl true)) : OpT B (rXEq B.P B.w B.K) (rDct B.P B.w B.K ks) (rDct B.P B.w B.K ls) k := fun H x y _ ⟨a, o, es, ex, ha, hal⟩ ⟨b, o', fs, ey, hb, hal'⟩ Q hQ => by
  subst ex ey
  refine ⟨a, b, es, fs, rfl, rfl, .inr ⟨o, ha⟩, .inr ⟨o', hb⟩, hal.keys, hal'.keys, by rw [hal.length, hal'.length]; exact hl, fun e he => ?_, hQ _ _ H q rfl (Same.refl H)⟩
  obtain ⟨p, hp, h1, h2, h3⟩ : ∃ p ∈ ks, ik p.1 = e.1 ∧ SqT B.K H e.2.1 (p.1.map V.int) ∧ p.2.p e.2.2 H := by
    obtain ⟨j, hj⟩ := List.mem_iff_getElem?.mp he
    have hlt : j < ks.length := by rw [← hal.length]; exact (List.getElem?_eq_some_iff.mp hj).1
    obtain ⟨b', hb', q⟩ := pget2 hal (List.getElem?_eq_getElem hlt)
    rw [hj] at hb'
    cases hb'
    exact ⟨_, List.getElem_mem hlt, q⟩
  obtain ⟨i, ei, hg⟩ := h p hp
  rw [ei] at h3
  rcases hal'.val p.1 with ⟨n, _⟩ | ⟨r, c, v, g1, g2, pv⟩
  · rw [hg] at n; cases n
  · rw [hg] at g1
    cases g1
    exact ⟨i, c, h3, by rw [← h1, g2]; exact congrArg (fun z => some (c, z)) pv⟩
end BX
set_option Elab.async false
set_option linter.all false
set_option maxRecDepth 100000
set_option maxHeartbeats 1000000
/-! BXi: the built-in functions by relations; slices, sums of tuples, unpacking of lists, instances. -/
namespace BX
open PySem PySem.Spec PyProof.Rows L2

/-! ### what is never reached -/
def tNo : TE := fun _ _ _ => False
def sNo : TS := fun _ _ _ => False
theorem pe_no {X : Cx} {e : Expr} : PE X e tNo := ⟨fun _ _ _ _ _ _ h => h.elim⟩
theorem ps_no {X : Cx} {s : Stmt} : PS X s sNo := ⟨fun _ _ _ _ _ _ h => h.elim⟩
theorem pss_no {X : Cx} {s : List Stmt} : PSs X s sNo := ⟨fun _ _ _ _ _ _ h => h.elim⟩

theorem al_app {α β : Type} {G : α → β → Prop} : ∀ {a c : List α} {b d : List β}, Paired G a b → Paired G c d → Paired G (a ++ c) (b ++ d)
  | _, _, _, _, .nil, h => h
  | _, _, _, _, .cons h t, h' => .cons h (al_app t h')
section
variable {B : Bd} {Γ : Ctx} {ta tb tc te : TE} {k : Rel → Prop} {D : Ends}
theorem we_imp {k' : Rel → Prop} (h : WpE B Γ te k) (m : ∀ r, k r → k' r) : WpE B Γ te k' := we_mono h m

/-! ### lists and tuples -/
theorem al_map_int {H : Hp} {ns : List Int} {vs : List V} (h : Al H (ns.map rInt) vs) : vs = ns.map V.int := al_ints h
theorem al_map_bl {H : Hp} : ∀ {bs : List Bool} {vs : List V}, Al H (bs.map rBl) vs → vs = bs.map V.bl
  | [], _, .nil => rfl
  | i :: k, _, .cons h t => by rw [List.map_cons, ← al_map_bl t]; exact congrArg (· :: _) h
theorem ct_max {ns : List Int} (h0 : 0 < ns.length) (q : ∀ m, m ∈ ns → (∀ y, y ∈ ns → y ≤ m) → k (rInt m)) : CaT B (rMax B.K) [rLst (ns.map rInt)] k := fun H vs _ h Q hQ => by
  cases h with
  | cons h t =>
    cases t
    obtain ⟨a, o, xs, rfl, hs, hal⟩ := h
    rw [al_map_int hal] at hs
    exact ⟨a, ns, rfl, .inl (.inr ⟨o, hs⟩), h0, fun m hm hle => hQ _ _ H (q m hm hle) rfl (Same.refl H)⟩
theorem ct_all {bs : List Bool} (q : k (rBl (bs.all id))) : CaT B (rAll B.K) [rLst (bs.map rBl)] k := fun H vs _ h Q hQ => by
  cases h with
  | cons h t =>
    cases t
    obtain ⟨a, o, xs, rfl, hs, hal⟩ := h
    rw [al_map_bl hal] at hs
    exact ⟨a, bs, rfl, .inl (.inr ⟨o, hs⟩), hQ _ _ H q rfl (Same.refl H)⟩
theorem ct_any {bs : List Bool} (q : k (rBl (bs.any id))) : CaT B (rAny B.K) [rLst (bs.map rBl)] k := fun H vs _ h Q hQ => by
  cases h with
  | cons h t =>
    cases t
    obtain ⟨a, o, xs, rfl, hs, hal⟩ := h
    rw [al_map_bl hal] at hs
    exact ⟨a, bs, rfl, .inl (.inr ⟨o, hs⟩), hQ _ _ H q rfl (Same.refl H)⟩
theorem ct_sum {ns : List Int} (q : k (rInt ns.sum)) : CaT B (rSum B.K) [rLst (ns.map rInt)] k := fun H vs _ h Q hQ => by
  cases h with
  | cons h t =>
    cases t
    obtain ⟨a, o, xs, rfl, hs, hal⟩ := h
    rw [al_map_int hal] at hs
    exact ⟨a, ns, rfl, .inl (.inr ⟨o, hs⟩), hQ _ _ H q rfl (Same.refl H)⟩
/-- tuple(list) -/
theorem ct_tuple {rs : List Rel} (q : k (rTup B.K rs)) : CaT B (fun xs H Q => ∃ p ys, xs = [.ref p] ∧ ((SqL B.K H p ys ∧ ∀ l, H l = none → Q (.ref l) (upd H l (.tup ys))) ∨ (SqT B.K H p ys ∧ Q (.ref p) H))) [rLst rs] k := fun H vs _ h Q hQ => by
  cases h with
  | cons h t =>
    cases t
    obtain ⟨a, o, xs, rfl, hs, hal⟩ := h
    exact ⟨a, xs, rfl, .inl ⟨.inl (.inr ⟨o, hs⟩), fun l hl => hQ _ _ _ q ⟨l, xs, rfl, .inl (.inl upd_same), hal.st (Same.im (Same.new hl))⟩ (Same.new hl)⟩⟩
/-- list(tuple), list(list) -/
theorem wl_listT {kl : List Rel → Prop} (h : WpE B Γ te fun r => ∃ rs, (r = rTup B.K rs ∨ r = rLst rs) ∧ kl rs) : WpL B Γ (tCB (fun xs H Q => ∃ p ys, xs = [.ref p] ∧ (SqL B.K H p ys ∨ SqT B.K H p ys) ∧ ∀ l, H l = none → Q (.ref l) (upd H l (.lst ys))) (tCons te tNil)) kl := fun σ H E Q hQ =>
  h σ H E _ fun r v H1 ⟨rs, er, hk⟩ p e => by
    rcases er with er | er
    · subst er
      obtain ⟨a, xs, rfl, hs, hal⟩ := p
      exact ⟨a, xs, rfl, .inr hs, fun l hl => hQ rs l xs _ hk (Same.free e hl) (Same.trans e (Same.new hl)) upd_same (hal.st (Same.im (Same.new hl)))⟩
    · subst er
      obtain ⟨a, o, xs, rfl, hs, hal⟩ := p
      exact ⟨a, xs, rfl, .inl (.inl (.inr ⟨o, hs⟩)), fun l hl => hQ rs l xs _ hk (Same.free e hl) (Same.trans e (Same.new hl)) upd_same (hal.st (Same.im (Same.new hl)))⟩
/-- two new lists, one behind the other -/
theorem wl_cat {kl : List Rel → Prop} (h : WpL B Γ ta fun rs => WpL B Γ tb fun ss => rs.length + ss.length ≤ sizeLine ∧ kl (rs ++ ss)) : WpL B Γ (tOp rCat ta tb) kl := fun σ H E Q hQ =>
  h σ H E _ fun rs p xs H1 h1 hp e1 hx hal => h1 σ H1 (E.mono e1) _ fun ss p' ys H2 ⟨hz, hk⟩ hp' e2 hy hal' => by
    refine ⟨p, p', xs, ys, rfl, rfl, e2 _ _ hx, hy, by rw [← Paired.length hal, ← Paired.length hal']; exact hz, fun l hl => ?_⟩
    have e12 := Same.trans e1 e2
    exact hQ _ l _ _ hk (Same.free e12 hl) (Same.trans e12 (Same.new hl)) upd_same (Al.st (Same.im (Same.new hl)) (al_app (Al.st (Same.im e2) hal) hal'))
/-- t[lo:hi] -/
theorem wo_none {ko : Option Int → Prop} (q : ko none) : WpO B Γ tNoPart ko := fun σ H E Q hQ => hQ none H q (Same.refl H)
theorem wo_some {ko : Option Int → Prop} (h : WpE B Γ te fun r => ∃ i, r = rInt i ∧ ko (some i)) : WpO B Γ (tPart te) ko := fun σ H E Q hQ =>
  h σ H E _ fun r v H1 ⟨i, er, hk⟩ p e => by
    subst er
    exact ⟨i, p, hQ _ H1 hk e⟩
def cutR {α : Type} (xs : List α) (lo hi : Option Int) : List α := (xs.drop (HT.sIx xs.length 0 lo)).take (HT.sIx xs.length xs.length hi - HT.sIx xs.length 0 lo)
theorem cutR_whole {α : Type} {xs : List α} {lo hi : Option Int} (h : HT.sIx xs.length 0 lo = 0 ∧ HT.sIx xs.length xs.length hi = xs.length) : cutR xs lo hi = xs := by
  unfold cutR
  rw [h.1, h.2, List.drop_zero, Nat.sub_zero, List.take_length]
theorem Al.drop {H : Hp} : ∀ (n : Nat) {rs : List Rel} {vs : List V}, Al H rs vs → Al H (rs.drop n) (vs.drop n)
  | 0, _, _, h => h
  | n + 1, _, _, .nil => .nil
  | n + 1, _, _, .cons _ t => Al.drop n t
theorem Al.take {H : Hp} : ∀ (n : Nat) {rs : List Rel} {vs : List V}, Al H rs vs → Al H (rs.take n) (vs.take n)
  | 0, _, _, h => .nil
  | n + 1, _, _, .nil => .nil
  | n + 1, _, _, .cons h t => .cons h (Al.take n t)
theorem we_slT {tl th : TO} (h : WpE B Γ te fun r => ∃ rs, r = rTup B.K rs ∧ WpO B Γ tl fun lo => WpO B Γ th fun hi => k (rTup B.K (cutR rs lo hi))) : WpE B Γ (tSl (rSlA B.K) te tl th) k := fun σ H E Q hQ =>
  h σ H E _ fun r v H1 ⟨rs, er, h1⟩ p e1 => h1 σ H1 (E.mono e1) _ fun lo H2 h2 e2 => h2 σ H2 (E.mono (Same.trans e1 e2)) _ fun hi H3 hk e3 => by
    subst er
    have e13 := Same.trans e1 (Same.trans e2 e3)
    obtain ⟨a, xs, rfl, hs, hal⟩ := Rel.st _ (Same.im (Same.trans e2 e3)) p
    have hl : xs.length = rs.length := (Paired.length hal).symm
    refine ⟨a, xs, rfl, hs, fun w => hQ _ _ _ hk ⟨a, xs, rfl, hs, ?_⟩ e13, fun w l hl' => hQ _ _ _ hk ⟨l, _, rfl, .inl (.inl upd_same), ?_⟩ (Same.trans e13 (Same.new hl'))⟩
    · rw [hl] at w
      rw [cutR_whole w]
      exact hal
    · have q := Al.take (HT.sIx rs.length rs.length hi - HT.sIx rs.length 0 lo) (Al.drop (HT.sIx rs.length 0 lo) hal)
      unfold cutV cutR
      rw [hl]
      exact q.st (Same.im (Same.new hl'))
/-- t + u -/
theorem ot_catT {rs ss : List Rel} (hz : rs.length + ss.length ≤ sizeLine) (q : k (rTup B.K (rs ++ ss))) : OpT B (rCatA B.K) (rTup B.K rs) (rTup B.K ss) k := fun H x y _ ⟨a, xs, ex, hs, hal⟩ ⟨b, ys, ey, hs', hal'⟩ Q hQ => by
  subst ex ey
  refine ⟨a, b, xs, ys, rfl, rfl, hs, hs', by rw [← Paired.length hal, ← Paired.length hal']; exact hz, fun e => ?_, fun _ e => ?_, fun _ _ p hp => ?_⟩
  · subst e
    cases hal
    exact hQ _ _ H q ⟨b, ys, rfl, hs', hal'⟩ (Same.refl H)
  · subst e
    cases hal'
    exact hQ _ _ H q ⟨a, xs, rfl, hs, by rw [List.append_nil]; exact hal⟩ (Same.refl H)
  · exact hQ _ _ _ q ⟨p, _, rfl, .inl (.inl upd_same), Al.st (Same.im (Same.new hp)) (al_app hal hal')⟩ (Same.new hp)
/-- t < u, tuples of ints -/
theorem ot_ltT {ns ms : List Int} (q : k (rBl (HT.lexLt ns ms))) : OpT B (rLtT B.K) (rKey B.K ns) (rKey B.K ms) k := fun H x y _ ⟨a, xs, ex, hs, hal⟩ ⟨b, ys, ey, hs', hal'⟩ Q hQ => by
  subst ex ey
  rw [al_ints hal] at hs
  rw [al_ints hal'] at hs'
  exact ⟨a, b, ns, ms, rfl, rfl, hs, hs', hQ _ _ H q rfl (Same.refl H)⟩
theorem ct_abs {i : Int} (q : k (rInt (if i < 0 then -i else i))) : CaT B (fun xs H Q => ∃ i, xs = [.int i] ∧ Q (.int (if i < 0 then -i else i)) H) [rInt i] k := fun H vs _ h Q hQ => by
  cases h with
  | cons h t =>
    cases t
    cases h
    exact ⟨i, rfl, hQ _ _ H q rfl (Same.refl H)⟩
theorem ct_int {i : Int} (q : k (rInt i)) : CaT B (fun xs H Q => (∃ i, xs = [.int i] ∧ Q (.int i) H) ∨ ∃ b, xs = [.bl b] ∧ Q (.int (if b then 1 else 0)) H) [rInt i] k := fun H vs _ h Q hQ => by
  cases h with
  | cons h t =>
    cases t
    cases h
    exact .inl ⟨i, rfl, hQ _ _ H q rfl (Same.refl H)⟩
theorem ct_intB {b : Bool} (q : k (rInt (if b then 1 else 0))) : CaT B (fun xs H Q => (∃ i, xs = [.int i] ∧ Q (.int i) H) ∨ ∃ b, xs = [.bl b] ∧ Q (.int (if b then 1 else 0)) H) [rBl b] k := fun H vs _ h Q hQ => by
  cases h with
  | cons h t =>
    cases t
    cases h
    exact .inr ⟨b, rfl, hQ _ _ H q rfl (Same.refl H)⟩
theorem ct_max2 {i j : Int} (q : k (rInt (if j > i then j else i))) : CaT B (fun xs H Q => ∃ i j, xs = [.int i, .int j] ∧ Q (.int (if j > i then j else i)) H) [rInt i, rInt j] k := fun H vs _ h Q hQ => by
  cases h with
  | cons h t =>
    cases t with
    | cons h' t =>
      cases t
      cases h
      cases h'
      exact ⟨i, j, rfl, hQ _ _ H q rfl (Same.refl H)⟩

/-! ### statements -/
theorem ws_aug {i : Nat} {ti : TIp} {r : Rel} {t : TS} (hi : Γ[i]? = some (.im r)) (h : WpE B Γ te fun rb => OpT B ti r rb fun rr => WpS B D (Γ.set i (.im rr)) t) : WpS B D Γ (tSeq (tAug i te ti) t) := fun σ H E => by
  obtain ⟨v, h1, pv⟩ := E.im_at hi
  refine ⟨v, h1, h σ H E _ fun rb y H1 q p e => ?_⟩
  exact q H1 v y (Same.trans E.ex e) (r.st (Same.im e) pv) p _ fun rr z H2 q' p' e' => q' _ _ ((E.mono (Same.trans e e')).set i p')
theorem ws_par {i j : Nat} {t : TA} {tz : TS} (h : WpA B Γ t fun rs => ∃ r s, rs = [r, s] ∧ WpS B D ((Γ.set i (.im r)).set j (.im s)) tz) : WpS B D Γ (tSeq (tPar i j t) tz) := fun σ H E =>
  h σ H E _ fun rs vs H1 ⟨r, s, er, q⟩ p e => by
    subst er
    cases p with
    | cons p1 t1 =>
      cases t1 with
      | cons p2 t2 =>
        cases t2
        exact ⟨_, _, rfl, q _ _ (((E.mono e).set i p1).set j p2)⟩
/-- the second one a new dict -/
theorem ws_parX {i j : Nat} {tz : TS} (h : WpE B Γ ta fun r => WpX B Γ tb fun ks => WpS B D ((Γ.set i (.im r)).set j (.mx ks)) tz) : WpS B D Γ (tSeq (tPar i j (tCons ta (tCons tb tNil))) tz) := fun σ H E =>
  h σ H E _ fun r v H1 h1 p1 e1 => h1 σ H1 (E.mono e1) _ fun ks p es H2 h2 hp e2 hx hal =>
    ⟨_, _, rfl, h2 _ _ (((E.mono e1).set i p1).setM j e2 hp ⟨p, es, rfl, (Same.trans E.ex e1).free hp, hx, hal⟩)⟩

/-! ### instances -/
/-- the promise of an __init__ that sets fields -/
def spMk (C : Addr) (S : List Rel → List (Str × Rel) → Prop) : Sp := fun vs H Q _ => ∃ x dx ws rs fs, vs = .ref x :: ws ∧ H x = some (.ins C dx []) ∧ Al H rs ws ∧ S rs fs ∧
  ∀ H1 xs, Same H H1 → Paired (fun (p : Str × Rel) (q : Str × V) => p.1 = q.1 ∧ p.2.p q.2 (upd H1 x (.ins C dx xs))) fs xs → Q .non (upd H1 x (.ins C dx xs))
theorem we_make {C : Addr} {S : List Rel → List (Str × Rel) → Prop} {E0' : XK} {t : TA} (h : WpA B Γ t fun rs => ∃ fs, S rs fs ∧ k (rIns C fs)) : WpE B Γ (tMake C (spMk C S) [] E0' t) k := fun σ H E Q hQ =>
  h σ H E _ fun rs vs H1 ⟨fs, hs, hk⟩ p e x dx hx hdx ne => by
    have n1 : Same H1 (upd (upd H1 dx (.own x)) x (.ins C dx [])) := Same.trans (Same.new hdx) (Same.new (by rw [upd_ne (Ne.symm ne)]; exact hx))
    refine ⟨x, dx, vs, rs, fs, by rw [List.append_nil], upd_same, p.st (Same.im n1), hs, fun H2 xs s2 hp => ⟨rfl, ?_⟩⟩
    have s3 : Same H1 (upd H2 x (.ins C dx xs)) := Same.put (fun b u q => s2 b u (n1 b u q)) hx
    exact hQ _ _ _ hk ⟨x, dx, xs, rfl, upd_same, hp⟩ (Same.trans e s3)
/-- self.f = e, the last statement of such an __init__ -/
theorem ws_fldI {i : Nat} {C : Addr} {f : Str} (hi : Γ[i]? = some (.im (rIns C []))) (c : Cls B.K C) (na : NoAttr B.K C f)
    (h : WpE B Γ te fun r => ∀ σ H1 x dx v, σ[i]? = some (some (V.ref x)) → H1 x = some (.ins C dx []) → Same B.H0 H1 → r.p v (upd H1 x (.ins C dx [(f, v)])) → D.nx σ (upd H1 x (.ins C dx [(f, v)])))
    (hr : ∀ (r : Rel) v H1 x dx o, r.p v H1 → H1 x = some (.ins C dx []) → o = .ins C dx [(f, v)] → r.p v (upd H1 x o)) : WpS B D Γ (sFld B.K (tVar i) te f) := fun σ H E =>
  h σ H E _ fun r y H1 q p e => by
    obtain ⟨v, h1, a, dx, xs, rfl, ha, hp⟩ := (E.mono e).im_at hi
    cases hp
    refine ⟨_, h1, a, C, dx, [], rfl, ha, c, na, by decide, ?_⟩
    exact q σ H1 a dx y h1 ha (Same.trans E.ex e) (hr r y H1 a dx _ p ha rfl)
end

/-! ### max of a tuple of ints -/
theorem max_tup {prog : Program} {w : World} {A : Around} {E : Value → Shared → Prop} {s : Shared} {a : Addr} {its : List Value} {ns : List Int} {Q : Value → Shared → Prop} (hh : A.handled = none) (hl : s.heap.IsTuple a its.toArray) (hi : IntsAre its ns) (hne : 0 < ns.length)
    (h : ∀ h' tk M t', (∀ b o, s.heap.get? b = some o → h'.get? b = some o) → M ∈ ns → (∀ a, a ∈ ns → a ≤ M) → Q (.int M t') { s with heap := h', toks := tk }) : wpAny (model prog w) A (call (.builtin "max") [.ref a]) Q E s := by
  have hlt : a < s.heap.objs.size := by obtain ⟨_, e, _⟩ := hl; exact Heap.lt_size e
  have hlen : its.length = ns.length := by
    clear hl hne h
    induction hi with
    | nil => rfl
    | cons _ _ _ ih => rw [List.length_cons, List.length_cons, ih]
  have at_ : ∀ (i : Nat) v, its.toArray[i]? = some v → ∃ t, v = Value.int (ns.getD i 0) t := by
    intro i v hv
    have hv' : its[i]? = some v := by simpa using hv
    clear hv hl hne h hlt hlen
    induction hi generalizing i with
    | nil => simp at hv'
    | @cons n t r1 r2 _ ih =>
      cases i with
      | zero => simp at hv'; exact ⟨_, hv'.symm⟩
      | succ i => simpa using ih i (by simpa using hv')
  refine call_max_walk (wpAny_pyIter_tuple hl ⟨s.heap.objs.size, _, _, _, _, _, _, rfl, Walks.tuple (A := A.in1) hh s.heap.objs.size a (Nat.ne_of_lt hlt) its.toArray, ⟨⟨_, Heap.get?_push_size _ rfl, rfl, rfl⟩, hl.at fun o e => Heap.get?_push_of_some _ e⟩, ?_, by simpa [hlen] using hne, CmpOf.ints_gt (fun i => ns.getD i 0) at_, fun v h' tk hP hk => ?_⟩)
  · intro b hb
    show b < (s.heap.push _).objs.size
    rw [Heap.size_push]
    rcases List.mem_cons.mp hb with rfl | hb
    · exact Nat.lt_succ_self _
    · rcases List.mem_cons.mp hb with rfl | hb
      · exact Nat.lt_succ_of_lt hlt
      · cases hb
  · obtain ⟨t, rfl⟩ := at_ _ _ hP
    obtain ⟨h1, h2⟩ := argBest_gt (fun i => ns.getD i 0) (its.toArray.size - 1)
    have hsz : its.toArray.size = ns.length := by simpa using hlen
    refine h h' tk _ t (fun b o e => hk b o (fun hm => ?_) (Heap.get?_push_of_some _ e)) ?_ fun y hy => ?_
    · rw [List.mem_singleton.mp hm] at e
      exact absurd (Heap.lt_size e) (Nat.lt_irrefl _)
    · exact PySem.getD_mem (by omega)
    · obtain ⟨j, hj, rfl⟩ := mem_getD hy
      exact h2 j (by omega)
def rMaxT (K : PySem.W.Frag) : List V → Hp → VK → Prop := fun vs H Q => ∃ (a : Addr) (ns : List Int), vs = [V.ref a] ∧ SqT K H a (ns.map V.int) ∧ 0 < ns.length ∧ ∀ m, m ∈ ns → (∀ y, y ∈ ns → y ≤ m) → Q (.int m) H
theorem cr_maxT {X : Cx} (hc : X.calm = true) : CallR X (.builtin "max") (rMaxT X.K) := by
  intro pins s σ H xs us Q I r h
  obtain ⟨a, ns, rfl, hs, h0, q⟩ := h
  obtain rfl := Vals.ref1 r
  obtain ⟨its, rv, ht, _⟩ := I.tuple hs
  exact max_tup (I.ok.hd hc) ht (intsAre_of rv) h0 fun h' tk M t' hk hm hle => ⟨.int M, H, I.kept (t' := tk) hk, ⟨t', rfl⟩, q M hm hle⟩
theorem ct_maxT {B : Bd} {k : Rel → Prop} {ns : List Int} (h0 : 0 < ns.length) (q : ∀ m, m ∈ ns → (∀ y, y ∈ ns → y ≤ m) → k (rInt m)) : CaT B (rMaxT B.K) [rKey B.K ns] k := fun H vs _ h Q hQ => by
  cases h with
  | cons h t =>
    cases t
    obtain ⟨a, xs, rfl, hs, hal⟩ := h
    rw [al_ints hal] at hs
    exact ⟨a, ns, rfl, hs, h0, fun m hm hle => hQ _ _ H (q m hm hle) rfl (Same.refl H)⟩
end BX
set_option Elab.async false
set_option linter.all false
set_option maxRecDepth 100000
set_option maxHeartbeats 1000000
/-! BXj: equality by an own __eq__, isinstance, unpacking of lists, retyping. -/
namespace BX
namespace Ne
open PySem PySem.SeqAt
open AutoSeq1 (wpAny_loadPart')
open MeetsSeq MeetsSeq2 MeetsSeq3 SeqRoads2
open GQ (FinOf call_here)
section
variable {prog : Program} {w : World} {A : Around} {R : Result → Shared → Prop}
theorem tuple_neG (l b : Addr) (items items2 : Array Value) (n n2 : Nat) (dd dd2 : Option Addr) (sl sl2 : Array (Option Value)) (hsz : items.size = items2.size) (I : Nat → Shared → Prop)
    (turn : ∀ i (h1 : i < items.size) (h2 : i < items2.size) s, I i s → wpAny (model prog w) A.in1 (eqBool items[i] items2[i]) (fun r s' => r = true ∧ I (i + 1) s') (fun e s' => R (.error e) s') s)
    (fin : ∀ s, I items.size s → R (.ok (.ret (.bool false))) s) {s : Shared} (hl1 : s.heap.get? l = some { cls := .type "tuple", dict := dd, data := .seq items n, slots := sl }) (hb1 : s.heap.get? b = some { cls := .type "tuple", dict := dd2, data := .seq items2 n2, slots := sl2 }) (h : I 0 s) :
    wpAny (model prog w) A.in1 (Builtin.«tuple.__ne__» ⟨[.ref l, .ref b], []⟩) (FinOf prog w A R) (fun e s' => R (.error e) s') s := by
  have f2 := AutoSeq1.sub_tuple_tuple
  have hZ : (items.toList.zip items2.toList).length = items.size := by simp [hsz]
  have h0 := h
  obtain ⟨hp, g, d, tk, os⟩ := s
  wp_walk using wpAny_loadPart' hl1, wpAny_loadPart' hb1, wpAny_forIn_list _ (fun rest b s' => b.1 = none ∧ ∃ i, rest = (items.toList.zip items2.toList).drop i ∧ i ≤ items.size ∧ I i s') _
  case turn =>
    rintro ⟨y, x⟩ rest b s' ⟨hb', i, hz, hi, hI⟩
    have hlt : i < (items.toList.zip items2.toList).length := by
      rcases Nat.lt_or_ge i (items.toList.zip items2.toList).length with h' | h'
      · exact h'
      · rw [List.drop_of_length_le h'] at hz; cases hz
    have h1 : i < items.size := hZ ▸ hlt
    have h2 : i < items2.size := hsz ▸ h1
    rw [List.drop_eq_getElem_cons hlt] at hz
    injection hz with hyx hrest
    have hy : y = items[i] := by have := congrArg Prod.fst hyx; simpa using this
    have hx : x = items2[i] := by have := congrArg Prod.snd hyx; simpa using this
    subst hy hx
    refine wpAny_bind (wpAny_mono (turn i h1 h2 s' hI) (fun r s2 q2 => ?_) fun _ _ x => x)
    obtain ⟨hr, q2⟩ := q2
    subst hr
    wp_walk
    exact ⟨rfl, i + 1, hrest, h1, q2⟩
  case fin =>
    rintro ⟨b1, b2⟩ s' ⟨hb', i, hz, hi, hI⟩
    simp only at hb'
    subst hb'
    have hge : items.size ≤ i := by
      rcases Nat.lt_or_ge i (items.toList.zip items2.toList).length with h' | h'
      · rw [List.drop_eq_getElem_cons h'] at hz; cases hz
      · exact hZ ▸ h'
    have hi' : i = items.size := by omega
    have hR : R (.ok (.ret (.bool false))) s' := fin s' (hi' ▸ hI)
    wp_walk
    simpa [Builtin.Tuple.tupleCompareSizes, hsz] using hR
  case h =>
    exact ⟨rfl, 0, rfl, Nat.zero_le _, h0⟩
end
section
variable {prog : Program} {w : World} {A : Around} {E : Value → Shared → Prop} {s : Shared}
theorem rc_tupNG {l b : Addr} {items items2 : Array Value} {Q : Value → Shared → Prop} (hsz : items.size = items2.size) (hu : A.units < cLine) (I : Nat → Shared → Prop)
    (hl : s.heap.IsTuple l items) (hb : s.heap.IsTuple b items2)
    (turn : ∀ i (h1 : i < items.size) (h2 : i < items2.size) s, I i s → wpAny (model prog w) A.in1 (eqBool items[i] items2[i]) (fun r s' => r = true ∧ I (i + 1) s') E s)
    (fin : ∀ s, I items.size s → Q (.bool false) s) (h : I 0 s) : wpAny (model prog w) A (richCompare .NotEq (.ref l) (.ref b)) Q E s := by
  obtain ⟨⟨cls, dd, data, sl⟩, ho, hc, n, hd⟩ := id hl
  obtain ⟨⟨cls2, dd2, data2, sl2⟩, ho2, hc2, n2, hd2⟩ := id hb
  simp only at hc hd hc2 hd2
  subst hc hd hc2 hd2
  refine wpAny_richCompare_same_room (op := .NotEq) ⟨_, ho, rfl⟩ ⟨_, ho2, rfl⟩ F.slot_tuple_ne (call_here F.slot_tuple_ne ⟨_, ho, rfl⟩ F.entry_tuple_ne (F.args_tuple_ne_2 _ _) ?_) hu
  exact tuple_neG (R := wants (fun v s' => v ≠ .notImplemented ∧ Q v s') E) l b items items2 n n2 dd dd2 sl sl2 hsz I turn (fun s' q => ⟨(fun x => nomatch x), fin s' q⟩) ho ho2 h

end
end Ne
open PySem PySem.Spec PyProof.Rows L2

/-! ### equal by the same relation -/
/-- == of two things of the relation gives True -/
def EqR (X : Cx) (n : Nat) (r : Rel) : Prop := EqG X n fun x y H => r.p x H ∧ r.p y H
theorem mon_rel (r : Rel) : Mon fun x y H => r.p x H ∧ r.p y H := fun x y H H' e h => ⟨r.st (Same.im e) h.1, r.st (Same.im e) h.2⟩
theorem EqR.mono' {X : Cx} {n m : Nat} {r : Rel} (h : EqR X n r) (hn : n ≤ m) : EqR X m r := EqG.mono h hn
theorem eqR_c {X : Cx} {v : V} (h : flatV v = true) (e : eqV v v = true) : EqR X 0 (rC v) := eqG_flat.imp fun x y H d => by
  obtain ⟨d1, d2⟩ := d
  cases d1
  cases d2
  exact ⟨h, h, e⟩
theorem eqR_int {X : Cx} {i : Int} : EqR X 0 (rInt i) := eqR_c rfl (by simp [eqV])
theorem prs_of {D : Eqv} {H : Hp} : ∀ {rs : List Rel} {xs ys : List V}, (∀ r ∈ rs, ∀ x y, r.p x H → r.p y H → D x y H) → Al H rs xs → Al H rs ys → Prs D xs ys H
  | _, _, _, _, .nil, .nil => Prs.nil
  | _, _, _, h, .cons h1 t1, .cons h2 t2 => Prs.cons (h _ (List.mem_cons_self ..) _ _ h1 h2) (prs_of (fun r hr => h r (List.mem_cons_of_mem _ hr)) t1 t2)
theorem eqG_any {X : Cx} {n : Nat} {rs : List Rel} (h : ∀ r ∈ rs, EqR X n r) : EqG X n fun x y H => ∃ r ∈ rs, r.p x H ∧ r.p y H := fun A pins s σ H x y u v sb I rx ry ⟨r, hr, d⟩ => h r hr A pins s σ H x y u v sb I rx ry d
theorem mon_any {rs : List Rel} : Mon fun x y H => ∃ r ∈ rs, r.p x H ∧ r.p y H := fun x y H H' e ⟨r, hr, d⟩ => ⟨r, hr, mon_rel r x y H H' e d⟩
theorem eqR_tup {X : Cx} {n : Nat} {rs : List Rel} (h : ∀ r ∈ rs, EqR X n r) : EqR X (n + 1) (rTup X.K rs) := (eqG_tup mon_any (eqG_any h)).imp fun x y H d => by
  obtain ⟨⟨a, xs, ex, hs, hal⟩, ⟨b, ys, ey, hs', hal'⟩⟩ := d
  exact ⟨a, b, xs, ys, ex, ey, hs, hs', prs_of (fun r hr x y h1 h2 => ⟨r, hr, h1, h2⟩) hal hal'⟩
theorem eqR_key {X : Cx} {k : List Int} : EqR X 1 (rKey X.K k) := eqR_tup fun r hr => by
  obtain ⟨i, _, rfl⟩ := List.mem_map.mp hr
  exact eqR_int
/-- the own == of a class: what its def promises -/
def spEqI (C : Addr) (fs : List (Str × Rel)) : Sp := spEq fun a b H => (rIns C fs).p (.ref a) H ∧ (rIns C fs).p (.ref b) H
theorem eqR_ins {X : Cx} {n : Nat} {CX : CXT} {C f : Addr} {fd : FuncData} {ps : List Str} {E : XK} {fs : List (Str × Rel)} (F : FnOk X.prog X.w X.K X.mg X.base CX n f fd ps (spEqI C fs))
    (hs : PySem.W.findIn X.K (.ref C) "__eq__" = some (some (.ref f))) (hf : PySem.W.isFn X.K (.ref f) = true) (hb : Binds X.K fd ps []) (hx : Passes CX X E) : EqR X n (rIns C fs) :=
  (eqG_ins (E := E) F hs hf hb hx).imp fun x y H d => by
    obtain ⟨d1, d2⟩ := d
    obtain ⟨a, dx, xs, rfl, ha, hp⟩ := d1
    obtain ⟨b, dy, ys, rfl, hb, hp'⟩ := d2
    exact ⟨a, b, dx, dy, xs, ys, rfl, rfl, ha, hb, ⟨a, dx, xs, rfl, ha, hp⟩, ⟨b, dy, ys, rfl, hb, hp'⟩⟩
/-- == as an expression, two things of one relation that is a tuple -/
def rEqT (K : PySem.W.Frag) (rs : List Rel) : R2 := rEqG fun x y H => (rTup K rs).p x H ∧ (rTup K rs).p y H
theorem op_eqT {X : Cx} {n : Nat} {rs : List Rel} (h : ∀ r ∈ rs, EqR X n r) (hr : Room (n + 1) X.A) : OpR X (compareOp .Eq) (rEqT X.K rs) :=
  op_eqG (fun A pins s σ H x y u v sb I rx ry d => by
    obtain ⟨⟨a, xs, ex, hs, hal⟩, ⟨b, ys, ey, hs', hal'⟩⟩ := d
    exact rcG_tup mon_any (eqG_any h) A pins s σ H x y u v sb I rx ry ⟨a, b, xs, ys, ex, ey, hs, hs', prs_of (fun r hr x y h1 h2 => ⟨r, hr, h1, h2⟩) hal hal'⟩) hr
theorem ot_eqT {B : Bd} {k : Rel → Prop} {rs : List Rel} (q : k (rBl true)) : OpT B (rEqT B.K rs) (rTup B.K rs) (rTup B.K rs) k := fun H x y _ h1 h2 Q hQ => ⟨⟨h1, h2⟩, fun H' e => hQ _ _ H' q rfl e⟩
def rNeT (K : PySem.W.Frag) (rs : List Rel) : R2 := fun x y H Q => ((rTup K rs).p x H ∧ (rTup K rs).p y H) ∧ ∀ H', Ext H H' → Q (.bl false) H'
theorem op_neT {X : Cx} {n : Nat} {rs : List Rel} (h : ∀ r ∈ rs, EqR X n r) (hr : Room (n + 1) X.A) : OpR X (compareOp .NotEq) (rNeT X.K rs) := by
  intro pins s σ H x y u v Q I rx ry hq
  obtain ⟨d, q⟩ := hq
  obtain ⟨⟨a, xs, rfl, hs, hal⟩, ⟨b, ys, rfl, hs', hal'⟩⟩ := d
  cases rx
  cases ry
  obtain ⟨its, r, e, z⟩ := I.tuple hs
  obtain ⟨its2, r2, e2, z2⟩ := I.tuple hs'
  have p : Prs (fun x y H => ∃ r ∈ rs, r.p x H ∧ r.p y H) xs ys H := prs_of (fun r hr x y h1 h2 => ⟨r, hr, h1, h2⟩) hal hal'
  have hsz : its.toArray.size = its2.toArray.size := by rw [List.size_toArray, List.size_toArray, ← r.length, ← r2.length]; exact p.1
  show wpAny (model X.prog X.w) X.A (richCompare .NotEq (.ref a) (.ref b)) (EP X pins σ Q) X.xe s
  exact Ne.rc_tupNG hsz hr.units0 (fun _ s' => LoopI X pins σ H s') e e2 (fun i h1 h2 s' q => turnG mon_any (eqG_any h) ⟨hr, rfl⟩ p r r2 i h1 h2 s' q) (fun s' ⟨H', I', e'⟩ => ⟨.bl false, H', I', rfl, q H' e'⟩) ⟨H, I, Ext.rfl'⟩
theorem ot_neT {B : Bd} {k : Rel → Prop} {rs : List Rel} (q : k (rBl false)) : OpT B (rNeT B.K rs) (rTup B.K rs) (rTup B.K rs) k := fun H x y _ h1 h2 Q hQ => ⟨⟨h1, h2⟩, fun H' e => hQ _ _ H' q rfl e⟩

/-! ### isinstance -/
def TyB (P : Program) (w : World) (K : PySem.W.Frag) (H : Hp) (x : V) (t : Value) : Prop := TyX K H x t ∨ (t = .type "dict" ∧ ∃ a es, x = .ref a ∧ Rd H a (DXO P w a es))
def rIsiB (P : Program) (w : World) (K : PySem.W.Frag) : List V → Hp → VK → Prop := fun xs H Q => ∃ (x c : V) (t u : Value) (b : Bool), xs = [x, c] ∧ ClsV c u ∧ TyB P w K H x t ∧ PySem.W.kitOne K t u = some b ∧ Q (.bl b) H
theorem call_isiB {X : Cx} : CallR X (.builtin "isinstance") (rIsiB X.prog X.w X.K) := by
  intro pins s σ H xs us Q I r h
  obtain ⟨x, c, t, u, b, rfl, kc, ty, e, q⟩ := h
  rcases ty with ty | ⟨rfl, a, es, rfl, g⟩
  · exact call_isi pins s σ H _ us Q I r ⟨x, c, t, u, b, rfl, kc, ty, e, q⟩
  · obtain ⟨u1, u2, rfl, r1, r2⟩ := vals2 r
    have e2 := kc.eq r2
    subst e2
    cases (show u1 = Value.ref a from r1)
    obtain ⟨_, _, ob, os, ep, h1, h2, _⟩ := x_raw I g
    exact PySem.W.kia_one PySem.W.kitx_dict I.kIn ⟨ob, h1, h2.1⟩ e (fun z => nomatch z) fun tk => ⟨.bl b, H, I.tok tk, rfl, q⟩
/-- things of the relation are of the type -/
def HasTy (B : Bd) (r : Rel) (t : Value) : Prop := ∀ H v, r.p v H → TyB B.P B.w B.K H v t
theorem ct_isi {B : Bd} {k : Rel → Prop} {r : Rel} {c : V} {t u : Value} {b : Bool} (h : HasTy B r t) (hc : ClsV c u) (e : PySem.W.kitOne B.K t u = some b) (q : k (rBl b)) : CaT B (rIsiB B.P B.w B.K) [r, rC c] k := fun H vs _ hh Q hQ => by
  cases hh with
  | cons h1 t1 =>
    cases t1 with
    | cons h2 t2 =>
      cases t2
      cases h2
      exact ⟨_, c, t, u, b, rfl, hc, h H _ h1, e, hQ _ _ H q rfl (Same.refl H)⟩
section
variable {B : Bd}
theorem ty_int {i : Int} : HasTy B (rInt i) (.type "int") := fun H v h => by cases h; exact .inl (.base (.int i))
theorem ty_bl {i : Bool} : HasTy B (rBl i) (.type "bool") := fun H v h => by cases h; exact .inl (.base (.bl i))
theorem ty_str {i : Str} : HasTy B (rStr i) (.type "str") := fun H v h => by cases h; exact .inl (.base (.str i))
theorem ty_tup {rs : List Rel} : HasTy B (rTup B.K rs) (.type "tuple") := fun H v h => by
  obtain ⟨a, xs, rfl, hs, _⟩ := h
  rcases hs with (hs | ⟨o, hs⟩) | ⟨o, its, n, hk, hc, _⟩
  · exact .inl (.base (.tup hs))
  · exact .inl (.fTuple hs)
  · exact .inl (.kTuple hk hc)
theorem ty_lst {rs : List Rel} : HasTy B (rLst rs) (.type "list") := fun H v h => by
  obtain ⟨a, o, xs, rfl, hs, _⟩ := h
  exact .inl (.base (.frz hs))
theorem ty_dct {ks : List (List Int × Rel)} : HasTy B (rDct B.P B.w B.K ks) (.type "dict") := fun H v h => by
  obtain ⟨a, o, es, rfl, hs, _⟩ := h
  exact .inr ⟨rfl, a, es, rfl, .inr ⟨o, hs⟩⟩
theorem ty_ins {C : Addr} {fs : List (Str × Rel)} (cl : Cls B.K C) (ha : PySem.W.findIn B.K (.ref C) "__class__" = some (some (.builtin "object.__class__")))
      (hn : PySem.W.specialIn B.K (.builtin "object.__class__") "__get__" = some (some (.builtin "getset_descriptor.__get__"))) (htk : PySem.W.takesIn B.K (.builtin "object.__class__") = some true)
      (hm : PySem.W.mroIn B.K C (.type "object") = some true) : HasTy B (rIns C fs) (.ref C) := fun H v h => by
  obtain ⟨a, dx, xs, rfl, hs, _⟩ := h
  exact .inl (.base (.ins hs cl ha hn htk hm))
end

/-! ### the parts of a list -/
section
variable {prog : Program} {w : World} {A : Around} {E : Value → Shared → Prop} {s : Shared}
theorem draw_list {it l : Addr} {items : Array Value} (hne : l ≠ it) : ∀ (n i : Nat) (s : Shared) (Q : List Value → Shared → Prop), s.heap.IsListIter it l i → s.heap.IsList l items → i + n ≤ items.size →
    (∀ h', h'.IsListIter it l (i + n) → Heap.SameBut it s.heap h' → Q ((items.toList.drop i).take n) { s with heap := h' }) → wpAny (model prog w) A (draw (.ref it) n) Q E s
  | 0, i, s, Q, hit, _, _, hQ => by
    show wpAny _ _ (pure []) Q E s
    exact wpAny_pure (by simpa using hQ s.heap hit (Heap.SameBut.refl ..))
  | n + 1, i, s, Q, hit, ht, hle, hQ => by
    have hlt : i < items.size := by omega
    show wpAny _ _ (pyNext (.ref it) >>= _) Q E s
    refine wpAny_bind (wpAny_pyNext_list_item hit ht (x := items[i]) (by simp [hlt]) fun h₁ hit₁ hs₁ => ?_)
    refine wpAny_bind (wpAny_holding (draw_list hne n (i + 1) _ _ hit₁ (ht.extBut hs₁.extBut hne) (by omega) fun h₂ hit₂ hs₂ => wpAny_pure ?_))
    have hd : items.toList.drop i = items[i] :: items.toList.drop (i + 1) := by simp [List.drop_eq_getElem_cons, hlt]
    have := hQ h₂ (by rw [show i + (n + 1) = i + 1 + n by omega]; exact hit₂) (hs₁.trans hs₂)
    rw [hd, List.take_succ_cons] at this
    exact this
theorem unpackItems_list {l : Addr} {items : Array Value} {Q : List Value → Shared → Prop} (hh : A.handled = none) (ht : s.heap.IsList l items)
    (hQ : ∀ h', Heap.ExtBut s.heap.objs.size s.heap h' → Q items.toList { s with heap := h' }) : wpAny (model prog w) A (unpackItems (.ref l) items.size none) Q E s := by
  have hlt : l ≠ s.heap.objs.size := by obtain ⟨o, ho, _⟩ := ht; exact Nat.ne_of_lt (Heap.lt_size ho)
  unfold unpackItems
  refine wpAny_bind ?_
  unfold notIterableAtAll
  refine wpAny_bind (wpAny_specialOf ht.typeIs PySem.F.slot_list_iter.lookup ?_)
  refine wpAny_pure ?_
  simp only [Bool.false_eq_true, if_false]
  refine wpAny_bind (wpAny_holding (wpAny_pyIter_list ht ?_))
  refine wpAny_bind (wpAny_holding (draw_list hlt items.size 0 _ _ ⟨_, Heap.get?_push_size _ rfl, rfl, rfl⟩ (ht.push _) (by omega) fun h₁ hit₁ hs₁ => ?_))
  have hall : List.take items.size (List.drop 0 items.toList) = items.toList := by
    rw [List.drop_zero]; exact List.take_of_length_le (by simp)
  rw [hall]
  rw [if_neg (by simp)]
  have ht₁ : h₁.IsList l items := (ht.push _).extBut hs₁.extBut hlt
  refine wpAny_bind (wpAny_holding (wpAny_pyNext_list_end hh hit₁ ht₁ (by simp) fun h₂ he₂ => ?_))
  simp only [Option.isSome_none, Bool.false_eq_true, if_false]
  exact wpAny_pure (hQ h₂ fun b o hb e => he₂ b o hb (hs₁.extBut b o hb (Heap.get?_push_of_some _ e)))
theorem unpack_list {l : Addr} {items : Array Value} {targets : List (Bool × (Value → Sem Unit))} {Q : Unit → Shared → Prop} (hh : A.handled = none) (ht : s.heap.IsList l items)
    (hn : targets.length = items.size) (hstar : targets.findIdx? (·.1) = none)
    (h : ∀ h', Heap.ExtBut s.heap.objs.size s.heap h' → wpAny (model prog w) A (assignInOrder (targets.map (·.2)) items.toList) Q E { s with heap := h' }) :
    wpAny (model prog w) A (unpack (.ref l) targets) Q E s := by
  unfold unpack
  rw [hn, hstar]
  exact wpAny_bind (wpAny_holding (unpackItems_list hh ht h))
end
/-- a, b = xs, xs a list -/
def gTupL (K : PySem.W.Frag) (n : Nat) (t : TGs) : TG := fun v σ H Q => ∃ a xs, v = .ref a ∧ SqL K H a xs ∧ xs.length = n ∧ t xs σ H Q
theorem pg_tupL {X : Cx} {es : List Expr} {k : Nat} {pos : Pos} {t : TGs} {n : Nat} (hc : X.calm = true) (h : PGs X es t)
    (hn : (assignEach es X.env).length = n := by rfl) (hst : (assignEach es X.env).findIdx? (·.1) = none := by rfl) : PG X (.Tuple es k pos) (gTupL X.K n t) := by
  refine ⟨fun pins s σ H v u Q I r hw => ?_⟩
  obtain ⟨a, xs, e1, hq, hl, hw⟩ := hw
  subst e1
  cases r
  obtain ⟨its, rv, ht, hz⟩ := I.list hq
  rw [assign_Tuple]
  refine wpAny_bind (wpAny_standAt (unpack_list (I.ok.hd hc) ht.isList (by simp [hn, ← hl, rv.length]) hst fun h' hx => ?_))
  have I1 : Inv X pins σ H { s with heap := h' } := I.kept (t' := s.toks) fun b o e => hx b o (Nat.ne_of_lt (Heap.lt_size e)) e
  exact h.run pins _ σ H xs _ Q I1 (by simpa using rv) hw
theorem wg_tupL {B : Bd} {Γ Γ' : Ctx} {gs : TGs} {rs : List Rel} {js : List Nat} {n : Nat} (hn : rs.length = n) (h : WpGs B Γ gs rs js Γ') : WpG B Γ (gTupL B.K n gs) (rLst rs) js Γ' := fun σ H v E p Q q => by
  obtain ⟨a, o, xs, rfl, hs, hal⟩ := p
  exact ⟨a, xs, rfl, .inl (.inr ⟨o, hs⟩), by rw [← Paired.length hal]; exact hn, h σ H xs E hal Q q⟩
/-- any target -/
theorem ws_asgG {B : Bd} {Γ Γ' : Ctx} {D : Ends} {te : TE} {g : TG} {tz : TS} (h : WpE B Γ te fun r => ∃ js Γ', WpG B Γ g r js Γ' ∧ WpS B D Γ' tz) : WpS B D Γ (tSeq (tAsg te g) tz) := fun σ H E =>
  h σ H E _ fun r v H' ⟨js, Γ', hg, hz⟩ p e => hg σ H' v (E.mono e) p _ fun σ' H'' E' _ _ _ => hz σ' H'' E'

/-! ### a def's promise over other words for the heap -/
structure Re (H H' : Hp) : Prop where
  non : ∀ b, H b = none ↔ H' b = none
  tup : ∀ b xs, H b = some (.tup xs) ↔ H' b = some (.tup xs)
  frz : ∀ b o u, H b = some (.frz o u) ↔ H' b = some (.frz o u)
  tbl : ∀ b ps, H b = some (.tbl ps) ↔ H' b = some (.tbl ps)
theorem Re.put {H : Hp} {a : Addr} {o o' : HO} (h : H a = some o) (h1 : ∀ xs, o ≠ .tup xs) (h2 : ∀ b u, o ≠ .frz b u) (h3 : ∀ ps, o ≠ .tbl ps) (g1 : ∀ xs, o' ≠ .tup xs) (g2 : ∀ b u, o' ≠ .frz b u) (g3 : ∀ ps, o' ≠ .tbl ps) : Re H (upd H a o') := by
  have key : ∀ b, b = a ∨ upd H a o' b = H b := fun b => by
    by_cases e : b = a
    · exact .inl e
    · exact .inr (upd_ne e)
  refine ⟨fun b => ?_, fun b xs => ?_, fun b q u => ?_, fun b ps => ?_⟩
  · rcases key b with rfl | e
    · rw [h, upd_same]; exact ⟨(fun z => nomatch z), (fun z => nomatch z)⟩
    · rw [e]
  · rcases key b with rfl | e
    · rw [h, upd_same]; exact ⟨fun z => absurd (Option.some.inj z) (h1 xs), fun z => absurd (Option.some.inj z) (g1 xs)⟩
    · rw [e]
  · rcases key b with rfl | e
    · rw [h, upd_same]; exact ⟨fun z => absurd (Option.some.inj z) (h2 q u), fun z => absurd (Option.some.inj z) (g2 q u)⟩
    · rw [e]
  · rcases key b with rfl | e
    · rw [h, upd_same]; exact ⟨fun z => absurd (Option.some.inj z) (h3 ps), fun z => absurd (Option.some.inj z) (g3 ps)⟩
    · rw [e]
theorem Re.refl (H : Hp) : Re H H := ⟨fun _ => Iff.rfl, fun _ _ => Iff.rfl, fun _ _ _ => Iff.rfl, fun _ _ => Iff.rfl⟩
theorem FnOk.re {P : Program} {w : World} {K : PySem.W.Frag} {mg : Str → Option Value} {base : Heap} {k : Nat} {f : Addr} {fd : FuncData} {ps : List Str} {sp sp' : Sp} (F : FnOk P w K mg base CX0 k f fd ps sp)
    (hl : ∀ vs H Q E, sp' vs H Q E → vs.length = ps.length)
    (h : ∀ vs H Q E hp, HOk P w H hp → sp' vs H Q E → ∃ H1, Re H H1 ∧ HOk P w H1 hp ∧ sp vs H1 (fun v H2 => ∀ hp', HOk P w H2 hp' → ∃ H3, Re H2 H3 ∧ HOk P w H3 hp' ∧ Q v H3) E) : FnOk P w K mg base CX0 k f fd ps sp' := by
  refine ⟨hl, fun A outer s H args us vs Q E hr e0 hb hv hs => ?_⟩
  obtain ⟨H1, re, ok, hsp⟩ := h vs H Q E s.heap e0.hok hs
  have e1 : Env0 P w K mg base A outer s H1 := ⟨e0.frames, e0.mod, fun b o q => ⟨(e0.bs b o q).1, (re.non b).mp (e0.bs b o q).2⟩, e0.bsz, e0.funs, fun b hb => (re.non b).mp (e0.frf b hb), ok, e0.bare⟩
  refine codeAny_mono (F.run A outer s H1 args us vs _ E hr e1 hb hv hsp) fun r s' q => ?_
  cases r with
  | error e => exact q
  | ok fl =>
    cases fl with
    | ret u =>
      obtain ⟨v, H2, os, bare, un, ok2, rv, q⟩ := q
      obtain ⟨H3, re3, ok3, q⟩ := q s'.heap ok2
      refine ⟨v, H3, os, bare, ⟨fun b o g n => un.keep b o g ((re.non b).mp n), fun b o g n => un.slot b o g ((re.non b).mp n), fun b o g n hx => (re3.non b).mp (un.free b o g ((re.non b).mp n) hx), un.there, fun b xs g => (re3.tup b xs).mp (un.tups b xs ((re.tup b xs).mp g)), fun b o u g => (re3.frz b o u).mp (un.frzs b o u ((re.frz b o u).mp g)), fun b ps g => ?_⟩, ok3, rv, q⟩
      obtain ⟨more, g'⟩ := un.tbls b ps ((re.tbl b ps).mp g)
      exact ⟨more, (re3.tbl b _).mp g'⟩
    | next => exact q
    | brk => exact q
    | cont => exact q
end BX
set_option Elab.async false
set_option linter.all false
set_option maxRecDepth 100000
set_option maxHeartbeats 1000000
/-! BXk: defs: their promises by relations. -/
namespace BX
open PySem PySem.Spec PyProof.Rows L2

/-- what may be returned -/
def RtK (B : Bd) (k : Rel → Prop) (D : Ends) : Prop := ∀ r v H', k r → r.p v H' → Same B.H0 H' → D.rt v H'
theorem RtK.more {B : Bd} {k : Rel → Prop} {D D' : Ends} {G st} (h : RtK B k D) (e : D'.rt = D.rt) : RtK (B.more G st) k D' := fun r v H' q p s => by rw [e]; exact h r v H' q p s
theorem ws_retk {B : Bd} {Γ : Ctx} {te : TE} {k : Rel → Prop} {D : Ends} (hD : RtK B k D) (h : WpE B Γ te k) : WpS B D Γ (tRet te) := fun σ H E => h σ H E _ fun r v H' q p e => hD r v H' q p (Same.trans E.ex e)
/-- the end of the body is reached -/
def NxK (B : Bd) (k : Rel → Prop) (D : Ends) : Prop := ∀ σ H', k rNon → Same B.H0 H' → D.nx σ H'
theorem ws_end {B : Bd} {Γ : Ctx} {k : Rel → Prop} {D : Ends} (hN : NxK B k D) (hk : k rNon) : WpS B D Γ tNext := fun σ H E => hN σ H hk E.ex
/-- the slots at a def's entry -/
def ctx0 (n : Nat) (rs : List Rel) : Ctx := rs.map Ty.im ++ List.replicate (n - rs.length) Ty.no
theorem env0 {B : Bd} (hB : ∀ H, B.fx H) {n : Nat} {rs : List Rel} {vs : List V} {N : List Str} (hn : N.length = n) (h : Al B.H0 rs vs) : Env B (ctx0 n rs) (L2.start N vs) B.H0 := by
  have hl : rs.length = vs.length := Paired.length h
  have key : ∀ (i : Nat) t, (ctx0 n rs)[i]? = some t → (∃ r v, t = .im r ∧ (L2.start N vs)[i]? = some (some v) ∧ r.p v B.H0) ∨ (t = .no ∧ (L2.start N vs)[i]? = some none) := by
    intro i t e
    unfold ctx0 at e
    unfold L2.start
    rcases Nat.lt_or_ge i rs.length with hi | hi
    · rw [List.getElem?_append_left (by rw [List.length_map]; exact hi), List.getElem?_map, List.getElem?_eq_getElem hi] at e
      cases e
      obtain ⟨v, hv, p⟩ := h.get' (List.getElem?_eq_getElem hi)
      refine .inl ⟨_, v, rfl, ?_, p⟩
      rw [List.getElem?_append_left (by rw [List.length_map, ← hl]; exact hi), List.getElem?_map, hv]
      rfl
    · rw [List.getElem?_append_right (by rw [List.length_map]; exact hi), List.length_map, List.getElem?_replicate] at e
      split at e
      · cases e
        refine .inr ⟨rfl, ?_⟩
        rw [List.getElem?_append_right (by rw [List.length_map, ← hl]; exact hi), List.length_map, List.getElem?_replicate, if_pos (by omega)]
      · cases e
  refine ⟨?_, Same.refl _, hB _, fun i t e => ?_, fun i j t u l hij e1 e2 m1 m2 q1 q2 => ?_⟩
  · unfold ctx0 L2.start
    simp only [List.length_append, List.length_map, List.length_replicate]
    omega
  · rcases key i t e with ⟨r, v, rfl, hv, p⟩ | ⟨rfl, hv⟩
    · exact ⟨_, hv, v, rfl, p⟩
    · exact ⟨_, hv, trivial⟩
  · rcases key i t e1 with ⟨r, v, rfl, _⟩ | ⟨rfl, _⟩ <;> cases m1
/-- the frame of a body -/
abbrev bd (P : Program) (w : World) (K : PySem.W.Frag) (H : Hp) : Bd := ⟨P, w, K, H, fun _ => True, fun _ _ _ _ => trivial⟩
theorem read_of (P : Program) (w : World) (K : PySem.W.Frag) {H : Hp} {n : Nat} {vs : List V} {N : List Str} {t : TS} {S : Spc} {Q : VK} {E : XK} (h : spOf S vs H Q E) (hn : N.length = n)
    (hw : ∀ rs k (D : Ends), S rs k → RtK (bd P w K H) k D → NxK (bd P w K H) k D → WpS (bd P w K H) D (ctx0 n rs) t) : t { nx := fun _ H' => Q .non H', rt := Q } (L2.start N vs) H := by
  obtain ⟨rs, k, hal, hs, hQ⟩ := h
  exact hw rs k _ hs (fun r v H' q p e => hQ r v H' q p e) (fun σ H' q e => hQ rNon .non H' q rfl e) _ _ (env0 (B := bd P w K H) (fun _ => trivial) hn hal)
theorem len_of {S : Spc} {n : Nat} (hS : ∀ rs k, S rs k → rs.length = n) : ∀ vs H Q E, spOf S vs H Q E → vs.length = n := fun vs H Q E ⟨rs, k, hal, hs, _⟩ => by
  rw [← Paired.length hal]
  exact hS rs k hs
/-- a def that may be called -/
structure Callee (P : Program) (w : World) (K : PySem.W.Frag) (mg : Str → Option Value) (base : Heap) (f : Addr) (fd : FuncData) (ps : List Str) (lv : Nat) (sp : Sp) : Prop where
  kp : PySem.W.keepIn K (.ref f) = true
  b : Binds K fd ps []
  F : FnOk P w K mg base CX0 lv f fd ps sp
end BX
set_option Elab.async false
set_option linter.all false
set_option maxRecDepth 100000
set_option maxHeartbeats 1000000
/-! BXl: enumerate over a tuple; floor division in place. -/
namespace BX
section
open PySem
open Sem (wp)
open AutoSeq1 (wpAny_loadPart')
theorem meets_enumerate_newT (l : Addr) (items : Array Value) (n : Nat) (dct : Option Addr) (sl : Array (Option Value)) :
    Meets (Builtin.«enumerate.__new__» ⟨[.type "enumerate", .ref l], []⟩) (fun _ R s => s.heap.get? l = some { cls := .type "tuple", dict := dct, data := .seq items n, slots := sl } ∧
      R (.ok (.ret (.ref (s.heap.push { cls := .type "tuple_iterator", data := .fields #[.ref l, .int 0 0] }).objs.size)))
        { s with heap := (s.heap.push { cls := .type "tuple_iterator", data := .fields #[.ref l, .int 0 0] }).push { cls := .type "enumerate", data := .fields #[.none, .bool false, .ref s.heap.objs.size, rawInt 0, .none, .none] } }) :=
  .of_wp fun prog w A R s h => by
    obtain ⟨hp, g, d, tk, os⟩ := s; obtain ⟨hl, h⟩ := h
    have hsub := sub_enumerate
    have hL : Heap.IsTuple (Shared.heap ⟨hp, g, d, tk, os⟩) l items := ⟨_, hl, rfl, n, rfl⟩
    wp_walk using wpAny_loadPart' hl
    refine wpAny_stack_any fun st => wpAny_pure ?_
    split
    · rename_i c _ _ _ _ _
      cases (c == Value.type "enumerate")
      · wp_walk using wpAny_loadPart' hl, wpAny_pyIter_tuple hL
        exact ⟨_, rfl, h⟩
      · wp_walk using wpAny_loadPart' hl, wpAny_pyIter_tuple hL
        exact ⟨_, rfl, h⟩
    · wp_walk using wpAny_loadPart' hl, wpAny_pyIter_tuple hL
      exact ⟨_, rfl, h⟩

section
variable {prog : Program} {w : World} {A : Around} {E : Value → Shared → Prop} {s : Shared}
theorem call_enumerate_tuple {l : Addr} {items : Array Value} {Q : Value → Shared → Prop} (hL : s.heap.IsTuple l items)
    (h : ∀ h', IsEnum h' (s.heap.objs.size + 1) s.heap.objs.size 0 .none → h'.IsTupleIter s.heap.objs.size l 0 → h'.objs.size = s.heap.objs.size + 2 →
      (∀ b o, s.heap.get? b = some o → h'.get? b = some o) → Q (.ref (s.heap.objs.size + 1)) { s with heap := h' }) :
    wpAny (model prog w) A (call (.type "enumerate") [.ref l]) Q E s := by
  obtain ⟨⟨c, dct, dt, sl⟩, hl, hc, n, hd⟩ := hL
  replace hc : c = .type "tuple" := hc
  replace hd : dt = .seq items n := hd
  subst hc hd
  refine callType_new F.called_enumerate (by decide) (F.typeCall_enumerate_1 _) (F.newCall_enumerate_1 _) (fun obj => F.args_object_init_2 obj _) F.entry_enumerate_new
    (meets_enumerate_newT l items n dct sl) ⟨hl, ?_⟩
  have hz : (s.heap.push { cls := .type "tuple_iterator", data := .fields #[.ref l, .int 0 0] }).objs.size = s.heap.objs.size + 1 := Heap.size_push ..
  show _ ∧ _
  rw [hz]
  have he : IsEnum ((s.heap.push { cls := .type "tuple_iterator", data := .fields #[.ref l, .int 0 0] }).push
      { cls := .type "enumerate", data := .fields #[.none, .bool false, .ref s.heap.objs.size, rawInt 0, .none, .none] }) (s.heap.objs.size + 1) s.heap.objs.size 0 .none := by
    have := Heap.get?_push_size (s.heap.push { cls := .type "tuple_iterator", data := .fields #[.ref l, .int 0 0] })
      (o := { cls := .type "enumerate", data := .fields #[.none, .bool false, .ref s.heap.objs.size, rawInt 0, .none, .none] }) rfl
    rw [hz] at this; exact this
  refine ⟨⟨_, he, rfl⟩, h _ he ⟨_, Heap.get?_push_of_some _ (Heap.get?_push_size _ rfl), rfl, rfl⟩ (by rw [Heap.size_push, hz]) fun b o x => Heap.get?_push_of_some _ (Heap.get?_push_of_some _ x)⟩

end
end
open PySem PySem.Spec PyProof.Rows L2
/-! ### enumerate(tuple) -/
def IteT (K : PySem.W.Frag) (a : Addr) : It :=
  ⟨fun i H => ∃ (xs : List V) (x : V), SqT K H a xs ∧ xs[i]? = some x, fun i H v H' => ∃ T x, v = .ref T ∧ H T = none ∧ H' = upd H T (.tup [.int (i : Nat), x]) ∧ ∀ xs, SqT K H a xs → xs[i]? = some x, fun i H => ∃ xs : List V, SqT K H a xs ∧ xs.length = i⟩
theorem sqT_inj {X : Cx} {pins : List (Addr × Obj)} {σ : L2.St} {H : Hp} {s : Shared} {a : Addr} {xs ys : List V} (I : Inv X pins σ H s) (h : SqT X.K H a xs) (h' : SqT X.K H a ys) : xs = ys := I.tuple_inj h h'
theorem turn_enumT {P : Program} {w : World} {K : PySem.W.Frag} {elts : List Expr} {kk : Nat} {tpos : Pos} (a e it : Addr) :
    Turn P w K (.Tuple elts kk tpos) (IteT K a) [e, it] e (fun i h => (∃ old, IsEnum h e it ((i : Nat) : Int) old) ∧ h.IsTupleIter it a i ∧ (e ≠ it ∧ a ≠ it ∧ e ≠ a)) where
  mem := by simp
  obj := fun i h st b hb => by
    obtain ⟨⟨old, he⟩, ⟨o, ho, hc, hd⟩, _⟩ := st
    have e' : b = e ∨ b = it := by simpa using hb
    rcases e' with z | z
    · rw [z]; exact ⟨_, he, fun v q => nomatch q⟩
    · rw [z]; exact ⟨o, ho, fun v q => by rw [hd] at q; cases q⟩
  keep := fun i h h' st k => let ⟨⟨old, he⟩, hi, hne⟩ := st; ⟨⟨old, k e (by simp) _ he⟩, hi.at fun o q => k it (by simp) o q, hne⟩
  item := by
    intro X hP hw hK hc i pins s σ H E I hf st hg
    subst hP hw hK
    obtain ⟨⟨old, he⟩, hit, hne⟩ := st
    obtain ⟨xs, x, hq, hx⟩ := hg
    obtain ⟨its, rv, p, hz⟩ := I.tuple hq
    obtain ⟨u, hu, ru⟩ := rv.get hx
    have hel : e < s.heap.objs.size := Heap.lt_size he
    have hil : it < s.heap.objs.size := by obtain ⟨_, q, _⟩ := hit; exact Heap.lt_size q
    refine wpAny_pyNext_enum_itemD (Draws.tuple (A := X.A.in1) (I.ok.hd hc) it a hne.2.1 its.toArray) he ⟨hit, p⟩ (by simpa using (List.getElem?_eq_some_iff.mp hu).1) hne.1 (by simp [hne.1, hne.2.2]) fun u' h' tk hu' ho hit' hT hsz hk => ?_
    have eu : u' = u := by
      have q : its.toArray[i]? = some u := by simpa using hu
      have q' : its.toArray[i]? = some u' := hu'
      rw [q] at q'
      exact (Option.some.inj q').symm
    rw [eu] at ho hT
    refine ⟨_, rfl, wpAny_letOwnedTupleGo_enum (s := { s with heap := h', toks := tk + 1 }) ho fun h'' he' sb => ?_⟩
    have hT2 : h''.get? s.heap.objs.size = some { cls := .type "tuple", data := .seq #[.int i tk, u] } := (sb.2 _ (Nat.ne_of_gt hel)).trans hT
    have new : ObjOk X.prog X.w (upd H s.heap.objs.size (.tup [.int (i : Nat), x])) h'' s.heap.objs.size (.tup [.int (i : Nat), x]) :=
      ⟨by show 2 ≤ sizeLine; decide, [.int i tk, u], .cons ⟨_, rfl⟩ (.cons ru .nil), ⟨_, hT2, rfl, _, rfl⟩⟩
    have I1 : Inv X pins σ (upd H s.heap.objs.size (.tup [.int (i : Nat), x])) { s with heap := h'', toks := tk + 1 } :=
      I.turnedNew (ch := [e, it]) (fun b ob hb q => (sb.2 b (fun z => hb (by simp [z]))).trans (hk b ob (fun z => hb (by simp [z])) (fun z => hb (by simp [z])) q)) hf (Nat.le_refl _) new
    refine ⟨.ref s.heap.objs.size, _, I1, rfl, ⟨_, x, rfl, I.hok.fresh (Nat.le_refl _), rfl, fun ys hy => by rw [sqT_inj I hy hq]; exact hx⟩, ⟨⟨u, ?_⟩, hit'.1.at fun o q => (sb.2 it (Ne.symm hne.1)).trans q, hne⟩, fun b hb => ?_⟩
    · have e1 : ((i + 1 : Nat) : Int) = (i : Int) + 1 := by omega
      rw [e1]; exact he'
    · have hb' : b < s.heap.objs.size := by
        have e' : b = e ∨ b = it := by simpa using hb
        rcases e' with z | z
        · rw [z]; exact hel
        · rw [z]; exact hil
      rw [upd_ne (Nat.ne_of_lt hb')]
      exact (hf b hb).1
  done := by
    intro X hP hw hK hc i pins s σ H E I hf st hg
    subst hP hw hK
    obtain ⟨⟨old, he⟩, hit, hne⟩ := st
    obtain ⟨xs, hq, hx⟩ := hg
    obtain ⟨its, rv, p, hz⟩ := I.tuple hq
    obtain ⟨f0, f1, f2, f3, f4, f5⟩ := hf it (by simp)
    have hl := rv.length
    have ei : i = its.toArray.size := by simp; omega
    subst ei
    exact wpAny_pyNext_enum_endD (Draws.tuple (A := X.A.in1) (I.ok.hd hc) it a hne.2.1 its.toArray) he ⟨hit, p⟩ fun h' eb => ⟨rfl, I.turned (t' := s.toks) (fun b o hb q => eb b o hb q) f0 f1 f3 f4 f5⟩
  self := fun A i s Q E st h => let ⟨⟨_, he⟩, _⟩ := st; wpAny_pyIter_enum he h
def iEnumT (K : PySem.W.Frag) (ta : TA) : TI := fun σ H R => ta σ H fun vs H1 => ∃ a xs, vs = [.ref a] ∧ SqT K H1 a xs ∧ R (IteT K a) H1
theorem pi_enumT {X : Cx} {e : Expr} {ta : TA} {p pos tpos : Pos} {elts : List Expr} {kk : Nat} (hg : Gl X "enumerate") (hm : X.mg "enumerate" = none) (ha : PA X [e] ta) (hs : starEach [e] X.env = [(false, eval e X.env)] := by rfl) :
    PI X (.Tuple elts kk tpos) (.Call (.Name "enumerate" p) [e] [] pos) (iEnumT X.K ta) := by
  refine ⟨fun pins s σ H R I h => ?_⟩
  refine Call_ (ld_blt I hg hm boot_enumerate (PyProof.Rows.callWith_type1 (thn (ha.run pos pins s σ H _ I h) fun us s1 ⟨vs, H1, I1, r1, q1⟩ => ?_) hs rfl))
  obtain ⟨a, xs, ex, hq, q⟩ := q1
  subst ex
  cases r1 with
  | cons r rr =>
    cases rr
    cases r
    obtain ⟨its, rv, p', hz⟩ := I1.tuple hq
    have alt : a < s1.heap.objs.size := by obtain ⟨_, q, _⟩ := p'; exact Heap.lt_size q
    refine call_enumerate_tuple p' fun h' he hit hsz hk => wpAny_pyIter_enum he ?_
    have I2 : Inv X pins σ H1 { s1 with heap := h' } := I1.kept (t' := s1.toks) hk
    refine ⟨s1.heap.objs.size + 1, [s1.heap.objs.size + 1, s1.heap.objs.size], _, _, H1, rfl, I2, turn_enumT a (s1.heap.objs.size + 1) s1.heap.objs.size, ⟨⟨.none, he⟩, hit, ⟨Nat.succ_ne_self _, Nat.ne_of_lt alt, Nat.ne_of_gt (Nat.lt_succ_of_lt alt)⟩⟩, fun b hb => ?_, q⟩
    have e' : b = s1.heap.objs.size + 1 ∨ b = s1.heap.objs.size := by simpa using hb
    have hle : s1.heap.objs.size ≤ b := by
      rcases e' with z | z
      · rw [z]; exact Nat.le_add_right _ _
      · rw [z]; exact Nat.le_refl _
    exact I1.fpOk hle (I1.hok.fresh hle)
theorem walk_enumT {K : PySem.W.Frag} {a : Addr} {xs : List V} : Walk (IteT K a) xs.length (fun H => SqT K H a xs) (YPair (fun i => some (.int (i : Nat))) (fun i => xs[i]?)) := by
  refine ⟨fun i _ hi q => ⟨xs, xs[i], q, by simp [hi]⟩, fun _ q => ⟨xs, q, rfl⟩, fun i H v H' _ q y => ?_⟩
  obtain ⟨T, x, h1, h2, h3, h4⟩ := y
  exact ⟨T, .int (i : Nat), x, h1, h2, h3, rfl, h4 xs q⟩
theorem wi_enumT {B : Bd} {Γ : Ctx} {ta : TA} {k : Nat → (Nat → Rel) → Prop} (h : WpA B Γ ta fun rs' => ∃ rs, rs' = [rTup B.K rs] ∧ k rs.length fun i => rTup B.K [rInt (i : Int), rs.getD i (rC .non)]) : WpI B Γ (iEnumT B.K ta) k := fun σ H E R hR =>
  h σ H E _ fun rs' vs H1 ⟨rs, er, hk⟩ p e => by
    subst er
    cases p with
    | cons p t =>
      cases t
      obtain ⟨a, xs, rfl, hs, hal⟩ := p
      refine ⟨a, xs, rfl, hs, ?_⟩
      have hl : xs.length = rs.length := (Paired.length hal).symm
      have w : Walk (IteT B.K a) rs.length (fun H => SqT B.K H a xs ∧ Al H rs xs) (YPair (fun i => some (.int (i : Nat))) (fun i => xs[i]?)) := by
        rw [← hl]
        exact walk_enumT.mono (fun _ z => z.1) fun _ _ _ _ _ _ y => y
      refine hR _ _ _ _ _ H1 hk e w ⟨hs, hal⟩ (fun H1 H2 im z => ⟨sqT_im im z.1, z.2.st im⟩) fun i H1 x H2 hi z y => ?_
      obtain ⟨T, x1, x2, rfl, hT, rfl, h1, h2⟩ := y
      cases h1
      obtain ⟨r, hr, pr⟩ := z.2.get h2
      refine ⟨Same.new hT, T, _, rfl, .inl (.inl upd_same), .cons rfl (.cons ?_ .nil)⟩
      rw [List.getD_eq_getElem?_getD, hr]
      exact r.st (Same.im (Same.new hT)) pr
/-- floor division in place -/
theorem ip_fdivN {X : Cx} : PIp X .FloorDiv (rI CDivN fun i j => .int (i.fdiv j)) := by
  intro pins s σ H x y v u Q I r1 r2 h
  obtain ⟨i, j, e1, e2, c, q⟩ := h
  subst e1; subst e2
  obtain ⟨t, rfl⟩ := r1
  obtain ⟨t', rfl⟩ := r2
  exact AutoIntOps.ifloordiv_1 (by simpa using c.1) (by rw [PyProof.noPylong_small c.2]; exact Bool.false_ne_true) ⟨.int _, H, I.tok _, ⟨_, rfl⟩, q⟩
end BX
set_option Elab.async false
set_option linter.all false
set_option maxRecDepth 100000
set_option maxHeartbeats 1000000
/-! BXn: comprehensions as filterMap, loops as folds. -/
namespace BX
open PySem PySem.Spec PyProof.Rows L2

-- less is told: shown item by item
section
variable {B : Bd} {Γ : Ctx} {D : Ends}
theorem take_succ_at {α : Type} {L : List α} {i : Nat} (h : i < L.length) : L.take (i + 1) = L.take i ++ [L[i]] := by
  rw [List.take_add_one, List.getElem?_eq_getElem h]
  rfl
theorem wl_lcF {α β : Type} (L : List α) {g : α → Rel} {f : α → Option β} {h : β → Rel} {wi : TI} {g' : TG} {tt : TT} {te : TE} {vs : List Nat} {kl : List Rel → Prop}
    (hw : WpI B Γ wi fun n rs => n = L.length ∧ (∀ i (hi : i < L.length), rs i = g L[i]) ∧ L.length ≤ sizeLine ∧
      (∀ x ∈ L, ∀ G st, ∃ Γ2 js, (∀ j, j ∈ js → j ∈ vs) ∧ WpG (B.more G st) (wipeC Γ vs) g' (g x) js Γ2 ∧
        WpT (B.more G st) Γ2 tt fun b => (b = true → ∃ y, f x = some y ∧ WpE (B.more G st) Γ2 te fun r => r = h y) ∧ (b = false → f x = none)) ∧ kl ((L.filterMap f).map h)) : WpL B Γ (tLc wi g' tt te vs) kl := by
  refine wl_lc fun σ H E R hR => hw σ H E R fun J n rs G Y H' ⟨hn, hr, hz, hs, hk⟩ => hR J n rs G Y H' ?_
  subst hn
  refine ⟨fun i es => es = ((L.take i).filterMap f).map h, by simp, fun i hi es hes G st => ?_, fun es hes => ?_⟩
  · obtain ⟨Γ2, js, h1, h2, h3⟩ := hs L[i] (List.getElem_mem hi) G st
    rw [← hr i hi] at h2
    refine ⟨Γ2, js, h1, h2, fun σ H E Q hQ => h3 σ H E Q fun b H' ⟨q1, q2⟩ => hQ b H' ⟨fun hb => ?_, fun hb => ?_⟩⟩
    · obtain ⟨y, hy, he⟩ := q1 hb
      refine we_mono he fun r er => ⟨?_, ?_⟩
      · subst hes
        rw [List.length_map]
        have a := List.length_filterMap_le f (L.take i)
        rw [List.length_take] at a
        omega
      · show es ++ [r] = ((L.take (i + 1)).filterMap f).map h
        rw [hes, er, take_succ_at hi, List.filterMap_append, List.map_append]
        simp [hy]
    · show es = ((L.take (i + 1)).filterMap f).map h
      rw [hes, take_succ_at hi, List.filterMap_append, List.map_append]
      simp [q2 hb]
  · have hes' : es = ((L.take L.length).filterMap f).map h := hes
    rw [hes', List.take_length]
    exact hk
/-- all are kept -/
theorem wl_lcM {α : Type} (L : List α) {g : α → Rel} {h : α → Rel} {wi : TI} {g' : TG} {te : TE} {vs : List Nat} {kl : List Rel → Prop}
    (hw : WpI B Γ wi fun n rs => n = L.length ∧ (∀ i (hi : i < L.length), rs i = g L[i]) ∧ L.length ≤ sizeLine ∧
      (∀ x ∈ L, ∀ G st, ∃ Γ2 js, (∀ j, j ∈ js → j ∈ vs) ∧ WpG (B.more G st) (wipeC Γ vs) g' (g x) js Γ2 ∧ WpE (B.more G st) Γ2 te fun r => r = h x) ∧ kl (L.map h)) : WpL B Γ (tLc wi g' tYes te vs) kl := by
  refine wl_lcF (f := fun x => some x) (h := h) L fun σ H E R hR => hw σ H E R fun J n rs G Y H' ⟨hn, hr, hz, hs, hk⟩ => hR J n rs G Y H' ⟨hn, hr, hz, fun x hx G st => ?_, by rw [List.filterMap_some]; exact hk⟩
  obtain ⟨Γ2, js, h1, h2, h3⟩ := hs x hx G st
  exact ⟨Γ2, js, h1, h2, wt_yes ⟨fun _ => ⟨x, rfl, h3⟩, fun z => nomatch z⟩⟩
theorem ws_nextW {Γ' : Ctx} (e : D.nx = EnvP B Γ') (h : Weak Γ Γ') : WpS B D Γ tNext := fun σ H E => by
  show D.nx σ H
  rw [e]
  exact E.wk h
/-- a loop as a fold -/
theorem ws_forF {α S : Type} (L : List α) {g : α → Rel} (s0 : S) (step : S → α → S) (Γs : S → Ctx) {wi : TI} {g' : TG} {tb tz : TS}
    (hw : WpI B Γ wi fun n rs => n = L.length ∧ (∀ i (hi : i < L.length), rs i = g L[i]) ∧ Weak Γ (Γs s0) ∧
      (∀ i (hi : i < L.length), ∀ G st, ∃ Γ2 js, WpG (B.more G st) (Γs ((L.take i).foldl step s0)) g' (g L[i]) js Γ2 ∧
        WpS (B.more G st) { D with nx := EnvP (B.more G st) (Γs (step ((L.take i).foldl step s0) L[i])), ct := EnvP (B.more G st) (Γs (step ((L.take i).foldl step s0) L[i])), bk := tz D } Γ2 tb) ∧
      WpS B D (Γs (L.foldl step s0)) tz) : WpS B D Γ (tSeq (tFor wi g' tb) tz) := fun σ H E => by
  refine hw σ H E _ fun J n rs G Y H1 ⟨hn, hr, hwk, hs, hz⟩ e w hG im hY => ?_
  subst hn
  refine for_it w (fun i σ H => Env (B.more G im) (Γs ((L.take i).foldl step s0)) σ H) (((E.mono e).wk hwk).more hG) (fun i σ H _ p => p.fx.2) (fun i x σ' H2 H3 hi p y => ?_) fun σ' H2 p => ?_
  · obtain ⟨e1, px⟩ := hY i H2 x H3 hi p.fx.2 y
    rw [hr i hi] at px
    obtain ⟨Γ2, js, hg, hb⟩ := hs i hi G im
    refine hg σ' H3 x (p.mono e1) px _ fun σ2 H4 E2 _ _ _ => ?_
    have q := hb σ2 H4 E2
    have et : (L.take (i + 1)).foldl step s0 = step ((L.take i).foldl step s0) L[i] := by
      rw [take_succ_at hi, List.foldl_append]
      rfl
    rw [et]
    exact q
  · rw [List.take_length] at p
    exact hz σ' H2 p.less
/-- a loop whose ways are any: what is known of the state behind i turns -/
theorem ws_forP {α S : Type} (L : List α) {g : α → Rel} (I : Nat → S → Prop) (s0 : S) (Γs : S → Ctx) {wi : TI} {g' : TG} {tb tz : TS}
    (hw : WpI B Γ wi fun n rs => n = L.length ∧ (∀ i (hi : i < L.length), rs i = g L[i]) ∧ Weak Γ (Γs s0) ∧ I 0 s0 ∧
      (∀ i (hi : i < L.length) s, I i s → ∀ G st, ∃ Γ2 js, WpG (B.more G st) (Γs s) g' (g L[i]) js Γ2 ∧
        WpS (B.more G st) { D with nx := fun σ H => ∃ s', I (i + 1) s' ∧ Env (B.more G st) (Γs s') σ H, ct := fun σ H => ∃ s', I (i + 1) s' ∧ Env (B.more G st) (Γs s') σ H, bk := tz D } Γ2 tb) ∧
      ∀ s, I L.length s → WpS B D (Γs s) tz) : WpS B D Γ (tSeq (tFor wi g' tb) tz) := fun σ H E => by
  refine hw σ H E _ fun J n rs G Y H1 ⟨hn, hr, hwk, h0, hs, hz⟩ e w hG im hY => ?_
  subst hn
  refine for_it w (fun i σ H => ∃ s, I i s ∧ Env (B.more G im) (Γs s) σ H) ⟨s0, h0, ((E.mono e).wk hwk).more hG⟩ (fun i σ H _ ⟨s, _, p⟩ => p.fx.2) (fun i x σ' H2 H3 hi ⟨s, hI, p⟩ y => ?_) fun σ' H2 ⟨s, hI, p⟩ => hz s hI σ' H2 p.less
  obtain ⟨e1, px⟩ := hY i H2 x H3 hi p.fx.2 y
  rw [hr i hi] at px
  obtain ⟨Γ2, js, hg, hb⟩ := hs i hi s hI G im
  exact hg σ' H3 x (p.mono e1) px _ fun σ2 H4 E2 _ _ _ => hb σ2 H4 E2
theorem ws_nextI {S : Type} {I : S → Prop} {Γs : S → Ctx} (e : D.nx = fun σ H => ∃ s', I s' ∧ Env B (Γs s') σ H) (s : S) (hI : I s) (h : Weak Γ (Γs s)) : WpS B D Γ tNext := fun σ H E => by
  show D.nx σ H
  rw [e]
  exact ⟨s, hI, E.wk h⟩
theorem ws_nextE {S : Ctx → Prop} (e : D.nx = EnvS B S) (Γ' : Ctx) (hw : Weak Γ Γ') (hs : S Γ') : WpS B D Γ tNext := fun σ H E => by
  show D.nx σ H
  rw [e]
  exact ⟨Γ', hs, E.wk hw⟩
/-- a dict comprehension as a fold -/
theorem wx_xdcF {α : Type} (L : List α) {g : α → Rel} (f : α → List Int × Rel) {wi : TI} {g' : TG} {tk tv : TE} {vs : List Nat} {kx : List (List Int × Rel) → Prop}
    (hw : WpI B Γ wi fun n rs => n = L.length ∧ (∀ i (hi : i < L.length), rs i = g L[i]) ∧ L.length ≤ sizeLine ∧
      (∀ x ∈ L, ∀ G st, ∃ Γ2 js, (∀ j, j ∈ js → j ∈ vs) ∧ WpG (B.more G st) (wipeC Γ vs) g' (g x) js Γ2 ∧ WpE (B.more G st) Γ2 tk fun r => r = rKey B.K (f x).1 ∧ WpE (B.more G st) Γ2 tv fun rv => rv = (f x).2) ∧
      kx (foldM (L.map f))) : WpX B Γ (tXDc B.P B.w B.K wi g' tYes tk tv vs) kx := by
  refine wx_xdc fun σ H E R hR => hw σ H E R fun J n rs G Y H' ⟨hn, hr, hz, hs, hk⟩ => hR J n rs G Y H' ?_
  subst hn
  have len : ∀ i, i ≤ L.length → (foldM ((L.take i).map f)).length ≤ i := by
    intro i hi
    have gen : ∀ (l : List (List Int × Rel)) acc, (l.foldl (fun acc e => putM acc e.1 e.2) acc).length ≤ acc.length + l.length := by
      intro l
      induction l with
      | nil => intro acc; exact Nat.le_refl _
      | cons e l ih =>
        intro acc
        have a := ih (putM acc e.1 e.2)
        have b : (putM acc e.1 e.2).length ≤ acc.length + 1 := by
          unfold putM
          split
          · rw [List.length_map]; omega
          · rw [List.length_append]; simp
        show (l.foldl _ (putM acc e.1 e.2)).length ≤ _
        rw [List.length_cons]
        omega
    have a := gen ((L.take i).map f) []
    rw [List.length_map, List.length_take] at a
    unfold foldM
    simp only [List.length_nil] at a
    omega
  refine ⟨fun i ks => ks = foldM ((L.take i).map f), by simp [foldM], fun i hi ks hks G st => ?_, fun ks hks => ?_⟩
  · obtain ⟨Γ2, js, h1, h2, h3⟩ := hs L[i] (List.getElem_mem hi) G st
    rw [← hr i hi] at h2
    refine ⟨Γ2, js, h1, h2, wt_yes ⟨fun _ => we_mono h3 fun r ⟨er, hv⟩ => ⟨_, er, we_mono hv fun rv ev => ⟨?_, ?_⟩⟩, fun z => nomatch z⟩⟩
    · have a := len i (Nat.le_of_lt hi)
      have hks' : ks = foldM ((L.take i).map f) := hks
      rw [← hks'] at a
      omega
    · show putM ks (f L[i]).1 rv = foldM ((L.take (i + 1)).map f)
      rw [show ks = foldM ((L.take i).map f) from hks, ev, take_succ_at hi, List.map_append]
      unfold foldM
      rw [List.foldl_append]
      rfl
  · have hks' : ks = foldM ((L.take L.length).map f) := hks
    rw [hks', List.take_length]
    exact hk
end
end BX
set_option Elab.async false
set_option linter.all false
set_option maxRecDepth 100000
set_option maxHeartbeats 1000000
/-! BXo: instances being made; tables of ints. -/
namespace BX
open PySem PySem.Spec PyProof.Rows L2

/-! ### an __init__ -/
/-- does not lean on an instance without attributes -/
def Ndx (r : Rel) : Prop := ∀ v H x C dx o, r.p v H → H x = some (.ins C dx []) → r.p v (upd H x o)
theorem ndx_c {v : V} : Ndx (rC v) := fun _ _ _ _ _ _ h _ => h
theorem sqT_ndx {K : PySem.W.Frag} {H : Hp} {a x C dx : Addr} {xs : List V} {o : HO} (h : SqT K H a xs) (hx : H x = some (.ins C dx [])) : SqT K (upd H x o) a xs := by
  rcases h with (h | ⟨ob, h⟩) | h
  · exact .inl (.inl (by rw [upd_ne (fun z => by rw [z, hx] at h; cases h)]; exact h))
  · exact .inl (.inr ⟨ob, by rw [upd_ne (fun z => by rw [z, hx] at h; cases h)]; exact h⟩)
  · exact .inr h
theorem ndx_tup {K : PySem.W.Frag} {rs : List Rel} (h : ∀ r ∈ rs, Ndx r) : Ndx (rTup K rs) := fun v H x C dx o p hx => by
  obtain ⟨a, xs, e, hs, hal⟩ := p
  refine ⟨a, xs, e, sqT_ndx hs hx, ?_⟩
  clear hs e
  induction hal with
  | nil => exact .nil
  | cons h1 t ih => exact .cons (h _ (List.mem_cons_self ..) _ _ _ _ _ _ h1 hx) (ih fun r hr => h r (List.mem_cons_of_mem _ hr))
abbrev bdI (P : Program) (w : World) (K : PySem.W.Frag) (H : Hp) (x C dx : Addr) : Bd := ⟨P, w, K, H, fun H' => H' x = some (.ins C dx []), fun _ _ e h => e _ _ ins_nc h⟩
/-- the end of an __init__ -/
def FinK (B : Bd) (x C dx : Addr) (fs : List (Str × Rel)) (D : Ends) : Prop := ∀ σ H1 xs, Same B.H0 H1 → H1 x = some (.ins C dx []) → Paired (fun (p : Str × Rel) (q : Str × V) => p.1 = q.1 ∧ p.2.p q.2 (upd H1 x (.ins C dx xs))) fs xs → D.nx σ (upd H1 x (.ins C dx xs))
theorem mk_of (P : Program) (w : World) (K : PySem.W.Frag) {H : Hp} {n : Nat} {vs : List V} {N : List Str} {t : TS} {C : Addr} {S : List Rel → List (Str × Rel) → Prop} {Q : VK} {E : XK} (h : spMk C S vs H Q E) (hn : N.length = n)
    (hw : ∀ rs fs (D : Ends) x dx, S rs fs → FinK (bdI P w K H x C dx) x C dx fs D → WpS (bdI P w K H x C dx) D (ctx0 n (rC (.ref x) :: rs)) t) : t { nx := fun _ H' => Q .non H', rt := Q } (L2.start N vs) H := by
  obtain ⟨x, dx, ws, rs, fs, rfl, hx, hal, hs, hQ⟩ := h
  have hl : rs.length = ws.length := Paired.length hal
  have e0 : Env (bd P w K H) (ctx0 n (rC (.ref x) :: rs)) (L2.start N (.ref x :: ws)) H := env0 (B := bd P w K H) (fun _ => trivial) hn (.cons rfl hal)
  exact hw rs fs _ x dx hs (fun σ H1 xs s1 g p => hQ H1 xs s1 p) _ _ ⟨e0.len, e0.ex, hx, fun i t e => let ⟨ov, h1, h2⟩ := e0.ty i t e; ⟨ov, h1, by cases t <;> exact h2⟩, e0.dis⟩
theorem len_mk {C : Addr} {S : List Rel → List (Str × Rel) → Prop} {n : Nat} (hS : ∀ rs fs, S rs fs → rs.length + 1 = n) : ∀ vs H Q E, spMk C S vs H Q E → vs.length = n := fun vs H Q E ⟨x, dx, ws, rs, fs, e, _, hal, hs, _⟩ => by
  rw [e, List.length_cons, ← Paired.length hal]
  exact hS rs fs hs
/-- self.f = e, the last statement -/
theorem ws_fldM {B : Bd} {Γ : Ctx} {D : Ends} {te : TE} {tn : TS} {x C dx : Addr} {fs : List (Str × Rel)} {f : Str} {i : Nat} (hi : Γ[i]? = some (.im (rC (.ref x)))) (hD : FinK B x C dx fs D) (hB : ∀ H, B.fx H → H x = some (.ins C dx [])) (c : Cls B.K C) (na : NoAttr B.K C f)
    (h : WpE B Γ te fun r => Ndx r ∧ fs = [(f, r)]) (hn : tn = tNext) : WpS B D Γ (tSeq (sFld B.K (tVar i) te f) tn) := fun σ H E => by
  subst hn
  refine h σ H E _ fun r y H1 ⟨nd, ef⟩ p e => ?_
  have E1 := E.mono e
  obtain ⟨v, h1, ev⟩ := E1.im_at hi
  cases ev
  have hx := hB H1 E1.fx
  refine ⟨_, h1, x, C, dx, [], rfl, hx, c, na, by decide, ?_⟩
  subst ef
  exact hD σ H1 [(f, y)] E1.ex hx (.cons ⟨rfl, nd _ _ _ _ _ _ p hx⟩ .nil)

/-! ### tables whose values are ints -/
abbrev PT := List (List Int × Int)
abbrev mI (m : PT) : List (List Int × Rel) := m.map fun e => (e.1, rInt e.2)
theorem getM_map {κ α β : Type} [DecidableEq κ] (f : α → β) (m : List (κ × α)) (k : κ) : getM (m.map fun e => (e.1, f e.2)) k = (getM m k).map f := by
  induction m with
  | nil => rfl
  | cons e m ih =>
    rw [List.map_cons, getM_cons, getM_cons]
    by_cases h : e.1 = k
    · rw [if_pos h, if_pos h]; rfl
    · rw [if_neg h, if_neg h]; exact ih
theorem putM_map {κ α β : Type} [DecidableEq κ] (f : α → β) (m : List (κ × α)) (k : κ) (a : α) : putM (m.map fun e => (e.1, f e.2)) k (f a) = (putM m k a).map fun e => (e.1, f e.2) := by
  unfold putM
  rw [getM_map, Option.isSome_map]
  split
  · rw [List.map_map, List.map_map]
    apply List.map_congr_left
    intro e _
    show (if e.1 = k then (e.1, f a) else (e.1, f e.2)) = _
    by_cases h : e.1 = k <;> simp [h]
  · rw [List.map_append]
    rfl
theorem foldM_map {α β : Type} (f : α → β) (m : List (List Int × α)) : foldM (m.map fun e => (e.1, f e.2)) = (foldM m).map fun e => (e.1, f e.2) := by
  have gen : ∀ (m acc : List (List Int × α)), (m.map fun e => (e.1, f e.2)).foldl (fun acc e => putM acc e.1 e.2) (acc.map fun e => (e.1, f e.2)) = (m.foldl (fun acc e => putM acc e.1 e.2) acc).map fun e => (e.1, f e.2) := by
    intro m
    induction m with
    | nil => intro acc; rfl
    | cons e m ih =>
      intro acc
      show (m.map _).foldl _ (putM (acc.map fun e => (e.1, f e.2)) e.1 (f e.2)) = _
      rw [putM_map]
      exact ih _
  exact gen m []
theorem putM_len {κ α : Type} [DecidableEq κ] (m : List (κ × α)) (k : κ) (a : α) : (putM m k a).length ≤ m.length + 1 := by
  unfold putM
  split
  · rw [List.length_map]; omega
  · rw [List.length_append]; simp
def cf (m : PT) (k : List Int) : Int := (getM m k).getD 0
def putA (m : PT) (k : List Int) (c : Int) : PT := putM m k (cf m k + c)
def sumP (A B : PT) (s : Int) : PT := B.foldl (fun m t => putA m t.1 (s * t.2)) (foldM A)
def add4 (a b : List Int) : List Int := [a.getD 0 0 + b.getD 0 0, a.getD 1 0 + b.getD 1 0, a.getD 2 0 + b.getD 2 0, a.getD 3 0 + b.getD 3 0]
def mulRow (a : List Int × Int) (B : PT) (m : PT) : PT := B.foldl (fun m b => putA m (add4 a.1 b.1) (a.2 * b.2)) m
def mulP (A B : PT) : PT := A.foldl (fun m a => mulRow a B m) []
def canonF (m : PT) (k : List Int) : Option (List Int × Int) := if cf m k = 0 then none else some (k, cf m k)
def canon (m : PT) : PT := ((m.map (·.1)).mergeSort keyLe).filterMap (canonF m)
/-- without the noughts, in the order as it stands -/
def nzF (m : PT) (k : List Int) : Option (List Int × Int) := canonF m k
def nz (m : PT) : PT := (m.map (·.1)).filterMap (canonF m)
theorem foldl_len {α : Type} (L : List α) (f : PT → α → PT) (h : ∀ m x, (f m x).length ≤ m.length + 1) : ∀ m, (L.foldl f m).length ≤ m.length + L.length := by
  induction L with
  | nil => intro m; exact Nat.le_refl _
  | cons x L ih =>
    intro m
    have a := ih (f m x)
    have b := h m x
    show (L.foldl f (f m x)).length ≤ _
    rw [List.length_cons]
    omega
theorem foldM_len (A : PT) : (foldM A).length ≤ A.length := by
  have a := foldl_len A (fun (acc : PT) e => putM acc e.1 e.2) (fun m x => putM_len m x.1 x.2) []
  have b : (foldM A).length ≤ ([] : PT).length + A.length := a
  rw [List.length_nil, Nat.zero_add] at b
  exact b
theorem sumP_len (A B : PT) (s : Int) : (sumP A B s).length ≤ A.length + B.length := by
  have a := foldl_len B (fun m t => putA m t.1 (s * t.2)) (fun m x => putM_len m x.1 _) (foldM A)
  have b := foldM_len A
  unfold sumP
  omega
end BX
set_option Elab.async false
set_option linter.all false
set_option maxRecDepth 100000
set_option maxHeartbeats 1000000
/-! BXp: the rules with the text, the world and the written part said. -/
namespace BX
open PySem PySem.Spec PyProof.Rows L2
def rLenS (K : PySem.W.Frag) : List V → Hp → VK → Prop := fun xs H Q => ∃ p ys, xs = [.ref p] ∧ (SqL K H p ys ∨ SqT K H p ys) ∧ Q (.int ys.length) H
def rTupOf (K : PySem.W.Frag) : List V → Hp → VK → Prop := fun xs H Q => ∃ p ys, xs = [.ref p] ∧ ((SqL K H p ys ∧ ∀ l, H l = none → Q (.ref l) (upd H l (.tup ys))) ∨ (SqT K H p ys ∧ Q (.ref p) H))
def rListOf (K : PySem.W.Frag) : List V → Hp → VK → Prop := fun xs H Q => ∃ p ys, xs = [.ref p] ∧ (SqL K H p ys ∨ SqT K H p ys) ∧ ∀ l, H l = none → Q (.ref l) (upd H l (.lst ys))
def rAbs : List V → Hp → VK → Prop := fun xs H Q => ∃ i, xs = [.int i] ∧ Q (.int (if i < 0 then -i else i)) H
def rInt1 : List V → Hp → VK → Prop := fun xs H Q => (∃ i, xs = [.int i] ∧ Q (.int i) H) ∨ ∃ b, xs = [.bl b] ∧ Q (.int (if b then 1 else 0)) H
def rMx2 : List V → Hp → VK → Prop := fun xs H Q => ∃ i j, xs = [.int i, .int j] ∧ Q (.int (if j > i then j else i)) H
section
variable {X : Cx} {P : Program} {w : World} {K : PySem.W.Frag}
theorem k_len (hK : X.K = K) : CallR X (.builtin "len") (rLenS K) := by subst hK; exact call_len_seq
theorem k_tupleOf (hK : X.K = K) : CallR X (.type "tuple") (rTupOf K) := by subst hK; exact call_tuple_of
theorem k_listOf (hK : X.K = K) : CallR X (.type "list") (rListOf K) := by subst hK; exact call_list_of
theorem k_abs : CallR X (.builtin "abs") rAbs := call_abs
theorem k_int1 : CallR X (.type "int") rInt1 := call_int1
theorem k_max2 (hc : X.calm = true) : CallR X (.builtin "max") rMx2 := call_max2 hc
theorem k_max (hK : X.K = K) (hc : X.calm = true) : CallR X (.builtin "max") (rMax K) := by subst hK; exact cr_max hc
theorem k_maxT (hK : X.K = K) (hc : X.calm = true) : CallR X (.builtin "max") (rMaxT K) := by subst hK; exact cr_maxT hc
theorem k_all (hK : X.K = K) (hc : X.calm = true) : CallR X (.builtin "all") (rAll K) := by subst hK; exact cr_all hc
theorem k_any (hK : X.K = K) (hc : X.calm = true) : CallR X (.builtin "any") (rAny K) := by subst hK; exact cr_any hc
theorem k_sum (hK : X.K = K) (hc : X.calm = true) : CallR X (.builtin "sum") (rSum K) := by subst hK; exact cr_sum hc
theorem k_xlen (hP : X.prog = P) (hw : X.w = w) (hK : X.K = K) : CallR X (.builtin "len") (rXLen P w K) := by subst hP hw hK; exact cr_xlen
theorem k_xsorted (hP : X.prog = P) (hw : X.w = w) (hK : X.K = K) (hc : X.calm = true) (hu : X.A.units + 64 < cLine) : CallR X (.builtin "sorted") (rXSorted P w K) := by subst hP hw hK; exact cr_xsorted hc hu
theorem k_xitems (hP : X.prog = P) (hw : X.w = w) (hc : X.calm = true) : CallR X (.type "list") (rXItemsList P w) := by subst hP hw; exact cr_xitems hc
theorem k_xpairs (hP : X.prog = P) (hw : X.w = w) (hK : X.K = K) (hc : X.calm = true) (hu : X.A.units + 64 < cLine) : CallR X (.type "dict") (rXPairs P w K) := by subst hP hw hK; exact cr_xpairs hc hu
theorem k_isi (hP : X.prog = P) (hw : X.w = w) (hK : X.K = K) : CallR X (.builtin "isinstance") (rIsiB P w K) := by subst hP hw hK; exact call_isiB
theorem k_xeq (hP : X.prog = P) (hw : X.w = w) (hK : X.K = K) (hu : X.A.units + 64 < cLine) : OpR X (compareOp .Eq) (rXEq P w K) := by subst hP hw hK; exact op_xeq hu
theorem k_eqT (hK : X.K = K) {n : Nat} {rs : List Rel} (h : ∀ r ∈ rs, EqR X n r) (hr : Room (n + 1) X.A) : OpR X (compareOp .Eq) (rEqT K rs) := by subst hK; exact op_eqT h hr
theorem k_neT (hK : X.K = K) {n : Nat} {rs : List Rel} (h : ∀ r ∈ rs, EqR X n r) (hr : Room (n + 1) X.A) : OpR X (compareOp .NotEq) (rNeT K rs) := by subst hK; exact op_neT h hr
theorem k_catT (hK : X.K = K) : OpR X (binaryOp .Add) (rCatA K) := by subst hK; exact op_catA
theorem k_ltT (hK : X.K = K) (hu : X.A.units < cLine) : OpR X (compareOp .Lt) (rLtT K) := by subst hK; exact op_ltT hu
theorem k_ixT (hK : X.K = K) : IxR X (rIxT K) := by subst hK; exact ix_tup
theorem k_ixL (hK : X.K = K) : IxR X (rIxL K) := by subst hK; exact ix_list
theorem k_slT (hK : X.K = K) : SlR X (rSlA K) := by subst hK; exact sl_tupA
theorem k_slL (hK : X.K = K) : SlR X (rSlL K) := by subst hK; exact sl_list
variable {o i e f value tg iter kx vx : Expr} {pos pos' apos cpos p2 : Pos} {td ty tz tv te ta : TE} {tA : TA}
theorem q_fld {f : Str} (hK : X.K = K) (he : PE X e te) (hb : attributeBase e f X.env (eval e X.env) = eval e X.env) : PE X (.Attribute e f pos) (tFld K te f) := by subst hK; exact pe_fld he hb
theorem q_new (hP : X.prog = P) (hw : X.w = w) : PE X (.Dict [] [] pos) (tXNew P w) := by subst hP hw; exact pe_xnew
theorem q_get (hP : X.prog = P) (hw : X.w = w) (hK : X.K = K) (hu : X.A.units + 1 < cLine) (ho : PE X o td) (hi : PE X i ty) (hs : NoSl i) : PE X (.Subscript o i pos) (tXGet P w K td ty) := by subst hP hw hK; exact pe_xget hu ho hi hs
theorem q_in (hP : X.prog = P) (hw : X.w = w) (hK : X.K = K) (hu : X.A.units + 1 < cLine) (hi : PE X i ty) (ho : PE X o td) : PC X .In i o (tXIn P w K ty td) := by subst hP hw hK; exact pc_xin hu hi ho
theorem q_notin (hP : X.prog = P) (hw : X.w = w) (hK : X.K = K) (hu : X.A.units + 1 < cLine) (hi : PE X i ty) (ho : PE X o td) : PC X .NotIn i o (tXNotIn P w K ty td) := by subst hP hw hK; exact pc_xnotin hu hi ho
theorem q_put (hP : X.prog = P) (hw : X.w = w) (hK : X.K = K) (hu : X.A.units + 1 < cLine) (ho : PE X o td) (hi : PE X i ty) (hv : PE X value tv) (hs : swapsWith value (some (.Subscript o i pos')) pos.line X.env = pure false) :
    PS X (.Assign [.Subscript o i pos'] value pos) (sXPut P w K td ty tv) := by subst hP hw hK; exact ps_xput hu ho hi hv hs
theorem q_get2 (hP : X.prog = P) (hw : X.w = w) (hK : X.K = K) (hu : X.A.units + 1 < cLine) (ho : PE X o td) (he : PE X e ty) (hf : PE X f tz) (m : M2 X o "get" apos e f cpos) : PE X (.Call (.Attribute o "get" apos) [e, f] [] cpos) (tXGet2 P w K td ty tz) := by subst hP hw hK; exact pe_xget2 hu ho he hf m
theorem q_items (hP : X.prog = P) (hw : X.w = w) (hK : X.K = K) (ho : PE X o td)
    (hbase : attributeBase o "items" X.env (eval o X.env) = eval o X.env := by rfl) (hline : (apos.endLine == cpos.line) = true := by rfl) : PE X (.Call (.Attribute o "items" apos) [] [] cpos) (tXItems P w K td) := by subst hP hw hK; exact pe_xitems ho hbase hline
theorem q_disp {keys : List (Option Expr)} {values : List Expr} {trs : List (TE × TE)} (hP : X.prog = P) (hw : X.w = w) (hK : X.K = K) (hu : X.A.units + 64 < cLine) (h : PPs X pos keys values trs) (hall : keys.all (·.isSome) = true) (hl : keys.length = values.length) (h0 : keys ≠ [])
    (h15 : keys.length ≤ 15) : PE X (.Dict keys values pos) (tXDisp P w K trs) := by subst hP hw hK; exact pe_xdisp hu h hall hl h0 h15
theorem q_list (hK : X.K = K) (hl : PE X e te) : PI X tg e (iList K te) := by subst hK; exact pi_list hl
theorem q_tup (hK : X.K = K) (hl : PE X e te) : PI X tg e (iTup K te) := by subst hK; exact pi_tup hl
theorem q_keys (hP : X.prog = P) (hw : X.w = w) (he : PE X e te) : PI X tg e (iXKeys P w te) := by subst hP hw; exact pi_xkeys he
theorem q_enum {p tpos : Pos} {elts : List Expr} {kk : Nat} (hK : X.K = K) (hg : Gl X "enumerate") (hm : X.mg "enumerate" = none) (ha : PA X [e] tA) (hs : starEach [e] X.env = [(false, eval e X.env)] := by rfl) :
    PI X (.Tuple elts kk tpos) (.Call (.Name "enumerate" p) [e] [] pos) (iEnum K tA) := by subst hK; exact pi_enum hg hm ha hs
theorem q_enumT {p tpos : Pos} {elts : List Expr} {kk : Nat} (hK : X.K = K) (hg : Gl X "enumerate") (hm : X.mg "enumerate" = none) (ha : PA X [e] tA) (hs : starEach [e] X.env = [(false, eval e X.env)] := by rfl) :
    PI X (.Tuple elts kk tpos) (.Call (.Name "enumerate" p) [e] [] pos) (iEnumT K tA) := by subst hK; exact pi_enumT hg hm ha hs
theorem q_gtup {es : List Expr} {k : Nat} {t : TGs} {n : Nat} (hK : X.K = K) (hc : X.calm = true) (h : PGs X es t)
    (hn : (assignEach es X.env).length = n := by rfl) (hst : (assignEach es X.env).findIdx? (·.1) = none := by rfl) : PG X (.Tuple es k pos) (gTup K n t) := by subst hK; exact pg_tup hc h hn hst
theorem q_gtupL {es : List Expr} {k : Nat} {t : TGs} {n : Nat} (hK : X.K = K) (hc : X.calm = true) (h : PGs X es t)
    (hn : (assignEach es X.env).length = n := by rfl) (hst : (assignEach es X.env).findIdx? (·.1) = none := by rfl) : PG X (.Tuple es k pos) (gTupL K n t) := by subst hK; exact pg_tupL hc h hn hst
theorem q_sfld {f : Str} (hK : X.K = K) (ha : PE X o ta) (hv : PE X value tv) (hs : swapsWith value (some (.Attribute o f pos')) pos.line X.env = pure false) : PS X (.Assign [.Attribute o f pos'] value pos) (sFld K ta tv f) := by subst hK; exact ps_fld ha hv hs
theorem q_append (hK : X.K = K) (ho : PE X o td) (ha : PA X [e] tA)
    (hbase : attributeBase o "append" X.env (eval o X.env) = eval o X.env := by rfl)
    (hfew : ((backTo cpos (starEach [e] X.env)).all (fun x => !x.1) && (backToKw cpos (keywordEach [] X.env)).all (fun x => x.1.isSome)
      && decide (([e] : List Expr).length + ([] : List Keyword).length + (if ([] : List Keyword).isEmpty then 0 else 1) < 30)) = true := by rfl)
    (hline : (apos.endLine == cpos.line) = true := by rfl) (hs : starEach [e] X.env = (false, eval e X.env) :: starEach [] X.env := by rfl) (hplain : (backTo cpos (starEach [] X.env)).any (·.1) = false := by rfl) :
    PE X (.Call (.Attribute o "append" apos) [e] [] cpos) (tBM K "list" rAppend td tA) := by subst hK; exact pe_bm PySem.F.plainAttrs_list PySem.F.slot_list_append PySem.F.type_list_append mt_append ho ha hbase hfew hline hs hplain
theorem q_dc {ifs : List Expr} {scope : Scope} {own : List (Str × Nat)} {wi : TI} {g : TG} {tt : TT} {tk tv : TE} (hP : X.prog = P) (hw : X.w = w) (hK : X.K = K) (hu : X.A.units + 64 < cLine) (hc : X.calm = true) (hN : X.N.Nodup) (hi : PI X tg iter wi) (ok : BlkOk X.N X.env.scope scope own)
    (hg : ∀ (s : Shared) (H : Hp) (C : Addr) (cl : List (Str × Addr)) (fp : List Addr), PG (X.blk s H scope (compEnvC scope cl C X.env) fp) tg g) (ht : ∀ (s : Shared) (H : Hp) (C : Addr) (cl : List (Str × Addr)) (fp : List Addr), PTs (X.blk s H scope (compEnvC scope cl C X.env) fp) ifs tt)
    (hk : ∀ (s : Shared) (H : Hp) (C : Addr) (cl : List (Str × Addr)) (fp : List Addr), PE (X.blk s H scope (compEnvC scope cl C X.env) fp) kx tk)
    (he : ∀ (s : Shared) (H : Hp) (C : Addr) (cl : List (Str × Addr)) (fp : List Addr), PE (X.blk s H scope (compEnvC scope cl C X.env) fp) vx tv) (hs : ∀ x, foldedSetIterable iter X.env x = pure x := by intro _; rfl) :
    PE X (.DictComp kx vx [⟨tg, iter, ifs, 0⟩] scope pos) (tXDc P w K wi g tt tk tv (own.map (·.2))) := by subst hP hw hK; exact pe_xdc hu hc hN hi ok hg ht hk he hs
theorem q_setDc {i : Nat} {y : Str} {py spos : Pos} {ifs : List Expr} {scope : Scope} {own : List (Str × Nat)} {wi : TI} {g : TG} {tt : TT} {tk tv : TE} (hP : X.prog = P) (hw : X.w = w) (hK : X.K = K) (hu : X.A.units + 64 < cLine) (hc : X.calm = true) (hN : X.N.Nodup) (hy : X.N[i]? = some y) (hyl : X.env.scope.names.lookup y = some .local)
    (hsw : swapsWith (.DictComp kx vx [⟨tg, iter, ifs, 0⟩] scope pos) (some (.Name y py)) spos.line X.env = pure true) (hi : PI X tg iter wi) (ok : BlkOk X.N X.env.scope scope own)
    (hg : ∀ (s : Shared) (H : Hp) (C : Addr) (cl : List (Str × Addr)) (fp : List Addr), PG (X.blk s H scope (compEnvC scope cl C X.env) fp) tg g) (ht : ∀ (s : Shared) (H : Hp) (C : Addr) (cl : List (Str × Addr)) (fp : List Addr), PTs (X.blk s H scope (compEnvC scope cl C X.env) fp) ifs tt)
    (hk : ∀ (s : Shared) (H : Hp) (C : Addr) (cl : List (Str × Addr)) (fp : List Addr), PE (X.blk s H scope (compEnvC scope cl C X.env) fp) kx tk)
    (he : ∀ (s : Shared) (H : Hp) (C : Addr) (cl : List (Str × Addr)) (fp : List Addr), PE (X.blk s H scope (compEnvC scope cl C X.env) fp) vx tv) (hs : ∀ x, foldedSetIterable iter X.env x = pure x := by intro _; rfl) :
    PS X (.Assign [.Name y py] (.DictComp kx vx [⟨tg, iter, ifs, 0⟩] scope pos) spos) (tAsg (tXDc P w K wi g tt tk tv (own.map (·.2))) (gName i)) := by subst hP hw hK; exact ps_setXDc hu hc hN hy hyl hsw hi ok hg ht hk he hs
end
end BX
set_option Elab.async false
set_option linter.all false
set_option maxRecDepth 100000
set_option maxHeartbeats 1000000
/-! BXm: a tactic that takes one step of a reading, by the head of its word. -/
namespace BX
open PySem PySem.Spec PyProof.Rows L2
section
variable {B : Bd} {Γ : Ctx} {te : TE} {D : Ends} {k : Rel → Prop} {tz : TS}
theorem ws_retS (hD : RtK B k D) (h : WpE B Γ te k) : WpS B D Γ (tSeq (tRet te) tz) := fun σ H E => h σ H E _ fun r v H' q p e => hD r v H' q p (Same.trans E.ex e)
theorem RtK.nx {n : L2.St → Hp → Prop} (hD : RtK B k D) : RtK B k { D with nx := n } := hD
/-- a way that is not taken -/
theorem we_never (h : False) : WpE B Γ te k := h.elim
theorem ws_never (h : False) : WpS B D Γ tz := h.elim
end
end BX
set_option Elab.async false
set_option linter.all false
set_option maxRecDepth 100000
set_option maxHeartbeats 1000000
/-! BXq: a list of dicts that are changed. -/
namespace BX
open PySem PySem.Spec PyProof.Rows L2

/-- the slot f holds a new list of new dicts -/
def MX (B : Bd) (f : Nat) (kss : List (List (List Int × Rel))) (σ : L2.St) (H : Hp) : Prop := ∃ l as, σ[f]? = some (some (.ref l)) ∧ B.H0 l = none ∧ H l = some (.lst (as.map V.ref)) ∧ (l :: as).Nodup ∧
  Paired (fun a ks => B.H0 a = none ∧ ∃ es, H a = some (DXO B.P B.w a es) ∧ AlX B.K H ks es) as kss
theorem MX.mono {B : Bd} {f : Nat} {kss : List (List (List Int × Rel))} {σ σ' : L2.St} {H H' : Hp} (h : MX B f kss σ H) (e : Same H H') (hs : σ'[f]? = σ[f]?) : MX B f kss σ' H' := by
  obtain ⟨l, as, h1, h2, h3, h4, h5⟩ := h
  exact ⟨l, as, by rw [hs]; exact h1, h2, e _ _ h3, h4, Paired.mapP h5 fun a ks ⟨n, es, ha, hal⟩ => ⟨n, es, e _ _ ha, hal.st (Same.im e)⟩⟩
theorem MX.more {B : Bd} {f : Nat} {kss : List (List (List Int × Rel))} {σ : L2.St} {H : Hp} {G st} (h : MX B f kss σ H) : MX (B.more G st) f kss σ H := h
/-- no slot holds what may change -/
def NoM (Γ : Ctx) : Prop := ∀ (i : Nat) t, Γ[i]? = some t → t.mut = false
/-- a new thing's change leaves such slots -/
theorem Env.chgN {B : Bd} {Γ : Ctx} {σ : L2.St} {H : Hp} (E : Env B Γ σ H) (hn : NoM Γ) {a : Addr} {o o' : HO} (ha : H a = some o) (hc : Chg o) (h0 : B.H0 a = none) : Env B Γ σ (upd H a o') := by
  refine ⟨E.len, Same.put E.ex h0, B.fs _ _ (Im.upd ha hc) E.fx, fun i t e => ?_, E.dis⟩
  obtain ⟨ov, h1, h2⟩ := E.ty i t e
  refine ⟨ov, h1, ?_⟩
  cases t with
  | no => trivial
  | im r => obtain ⟨v, c1, c2⟩ := h2; exact ⟨v, c1, r.st (Im.upd ha hc) c2⟩
  | ml rs => exact nomatch (hn i _ e)
  | mx ks => exact nomatch (hn i _ e)
section
variable {B : Bd} {Γ : Ctx} {D : Ends}
/-- [{} for _ in ..] -/
theorem ws_mkX {wi : TI} {j f : Nat} {tz : TS} (h : WpI B Γ wi fun n rs => n ≤ sizeLine ∧ f < Γ.length ∧ ∀ σ H, Env B (Γ.set f .no) σ H → MX B f (List.replicate n []) σ H → tz D σ H) :
    WpS B D Γ (tSeq (tAsg (tLc wi (gName j) tYes (tXNew B.P B.w) [j]) (gName f)) tz) := fun σ H E => by
  show tLc wi (gName j) tYes (tXNew B.P B.w) [j] σ H fun x H1 => gName f x σ H1 (tz D)
  refine h σ H E _ fun J n rs G Y H1 ⟨hz, hf, hk⟩ e w hG im hY => ?_
  intro Dl hD
  have h0n : B.H0 Dl = none := Same.free (Same.trans E.ex e) hD
  have old : Env B Γ σ H1 := E.mono e
  refine lc_it (Qd := fun H => gName f (.ref Dl) σ H (tz D)) w (fun i H2 => ∃ as, as.length = i ∧ H2 Dl = some (.lst (as.map V.ref)) ∧ (Dl :: as).Nodup ∧ (∀ a ∈ as, H1 a = none ∧ H2 a = some (DXO B.P B.w a [])) ∧ G H2 ∧ Same H1 H2) ?_ (fun i H2 _ ⟨_, _, _, _, _, g, _⟩ => g) ?_ ?_
  · exact ⟨[], rfl, upd_same, by simp, fun _ h => (by cases h), im _ _ (Same.im (Same.new hD)) hG, Same.new hD⟩
  · rintro i x H2 H3 hi ⟨as, hl, hDl, nd, ha, g, s1⟩ y
    obtain ⟨e1, px⟩ := hY i H2 x H3 hi g y
    refine ⟨?_, ?_⟩
    · show L2.wipe ((L2.wipe σ [j]).set j (some x)) [j] = L2.wipe σ [j]
      exact (wipe_of (by simp) fun k hk => List.getElem?_set_ne (fun z => hk (by simp [z]))).trans (wipe_of (wipe_length σ [j]) fun k hk => wipe_out hk)
    · simp only [tYes, if_true]
      intro p hp
      have e3 : Same H2 (upd H3 p (DXO B.P B.w p [])) := Same.trans e1 (Same.new hp)
      have s3 : Same H1 (upd H3 p (DXO B.P B.w p [])) := Same.trans s1 e3
      have hl3 := e3 _ _ hDl
      have pD : p ≠ Dl := fun z => by rw [z] at hp; rw [e1 _ _ hDl] at hp; cases hp
      have p1 : H1 p = none := Same.free (Same.trans s1 e1) hp
      refine ⟨as.map V.ref, hl3, by rw [List.length_map, hl]; omega, as ++ [p], by rw [List.length_append, hl]; rfl, by rw [upd_same, List.map_append]; rfl, ?_, ?_, im _ _ (Im.trans (Same.im e3) (Im.upd hl3 lst_c)) g, Same.put s3 hD⟩
      · rw [← List.cons_append, List.nodup_append]
        refine ⟨nd, by simp, fun a ha' b hb => ?_⟩
        have hb' : b = p := by simpa using hb
        subst hb'
        intro z
        subst z
        rcases List.mem_cons.mp ha' with q | q
        · exact pD q
        · have := (ha a q).2
          rw [e1 _ _ this] at hp
          cases hp
      · intro a ha'
        rcases List.mem_append.mp ha' with q | q
        · obtain ⟨q1, q2⟩ := ha a q
          have ne : a ≠ Dl := fun z => by rw [List.nodup_cons] at nd; exact nd.1 (z ▸ q)
          exact ⟨q1, by rw [upd_ne ne]; exact e3 _ _ q2⟩
        · have q' : a = p := by simpa using q
          subst q'
          exact ⟨p1, by rw [upd_ne pD]; exact upd_same⟩
  · rintro H2 ⟨as, hl, hDl, nd, ha, g, s1⟩
    show tz D (σ.set f (some (.ref Dl))) H2
    have E2 : Env B Γ σ H2 := old.mono s1
    refine hk _ H2 ⟨by rw [List.length_set, List.length_set]; exact E2.len, E2.ex, E2.fx, fun i t e => ?_, fun i k t u l hik e1 e2 m1 m2 q1 q2 => ?_⟩ ⟨Dl, as, List.getElem?_set_self (by rw [E.len]; exact hf), h0n, hDl, nd, ?_⟩
    · by_cases hi : f = i
      · subst hi
        obtain ⟨_, rfl⟩ := set_at e
        exact ⟨some (.ref Dl), List.getElem?_set_self (by rw [E.len]; exact hf), trivial⟩
      · rw [List.getElem?_set_ne hi] at e ⊢
        exact E2.ty i t e
    · have n1 : f ≠ i := fun z => by subst z; obtain ⟨_, rfl⟩ := set_at e1; cases m1
      have n2 : f ≠ k := fun z => by subst z; obtain ⟨_, rfl⟩ := set_at e2; cases m2
      rw [List.getElem?_set_ne n1] at e1 q1
      rw [List.getElem?_set_ne n2] at e2 q2
      exact E2.dis i k t u l hik e1 e2 m1 m2 q1 q2
    · have gen : ∀ as : List Addr, (∀ a ∈ as, H1 a = none ∧ H2 a = some (DXO B.P B.w a [])) → Paired (fun a ks => B.H0 a = none ∧ ∃ es, H2 a = some (DXO B.P B.w a es) ∧ AlX B.K H2 ks es) as (List.replicate as.length []) := by
        intro as
        induction as with
        | nil => intro _; exact .nil
        | cons a as ih =>
          intro ha
          rw [List.length_cons, List.replicate_succ]
          exact .cons ⟨Same.free (Same.trans E.ex e) (ha a (List.mem_cons_self ..)).1, [], (ha a (List.mem_cons_self ..)).2, .nil⟩ (ih fun b hb => ha b (List.mem_cons_of_mem _ hb))
      have := gen as ha
      rw [hl] at this
      exact this
theorem pair_set {α β : Type} {G : α → β → Prop} : ∀ {as : List α} {bs : List β} {j : Nat} {b : β}, Paired G as bs → (∀ a, as[j]? = some a → G a b) → Paired G as (bs.set j b)
  | _, _, _, _, .nil, _ => .nil
  | _, _, 0, _, .cons h t, g => .cons (g _ rfl) t
  | _, _, j + 1, _, .cons h t, g => .cons h (pair_set t fun a e => g a (by simpa using e))
/-- found[e][k] = v -/
theorem sx_put {f : Nat} {kss : List (List (List Int × Rel))} {te ty tv : TE} {σ : L2.St} {H : Hp} (hn : NoM Γ) (E : Env B Γ σ H) (M : MX B f kss σ H)
    (h : WpE B Γ tv fun rv => WpE B Γ te fun re => ∃ j : Nat, re = rInt (j : Int) ∧ j < kss.length ∧ WpE B Γ ty fun rk => ∃ kk, rk = rKey B.K kk ∧ (kss.getD j []).length < sizeLine ∧
      ∀ H', Env B Γ σ H' → MX B f (kss.set j (putM (kss.getD j []) kk rv)) σ H' → D.nx σ H') : sXPut B.P B.w B.K (tOp (rIxL B.K) (tVar f) te) ty tv D σ H :=
  h σ H E _ fun rv v H1 h1 pv e1 => by
    obtain ⟨l, as, m1, m2, m3, m4, m5⟩ := M.mono e1 rfl
    refine ⟨_, m1, h1 σ H1 (E.mono e1) _ fun re x H2 ⟨j, er, hj, h2⟩ px e2 => ?_⟩
    subst er
    cases px
    have hja : j < as.length := by rw [Paired.length m5]; exact hj
    refine ⟨l, as.map V.ref, j, .ref as[j], rfl, rfl, .inl (.inl (e2 _ _ m3)), atI_nat (by rw [List.getElem?_map, List.getElem?_eq_getElem hja]; rfl), ?_⟩
    refine h2 σ H2 (E.mono (Same.trans e1 e2)) _ fun rk y H3 ⟨kk, ek, hz, hq⟩ py e3 => ?_
    subst ek
    have e13 := Same.trans e1 (Same.trans e2 e3)
    obtain ⟨b, rfl, hb⟩ := rKey_at py
    have hks : kss[j]? = some (kss.getD j []) := by rw [List.getD_eq_getElem?_getD, List.getElem?_eq_getElem hj]; rfl
    obtain ⟨ks, hks', n0, es, ha, hal⟩ := pget2 m5 (List.getElem?_eq_getElem hja)
    rw [hks] at hks'
    cases hks'
    have ha3 : H3 as[j] = some (DXO B.P B.w as[j] es) := e3 _ _ (e2 _ _ ha)
    have hal3 := hal.st (Same.im (Same.trans e2 e3))
    refine ⟨as[j], es, b, ik kk, rfl, ha3, hal3.keys, rfl, hb, by rw [hal.length]; exact hz, ?_⟩
    have E3 := E.mono e13
    have im3 : Im H3 (upd H3 as[j] (DXO B.P B.w as[j] (putE es (ik kk) b v))) := Im.upd ha3 dx_c
    refine hq _ (E3.chgN hn ha3 dx_c n0) ⟨l, as, m1, m2, ?_, m4, ?_⟩
    · rw [upd_ne (fun z => by rw [List.nodup_cons] at m4; exact m4.1 (z ▸ List.getElem_mem hja))]
      exact e3 _ _ (e2 _ _ m3)
    · have nd : as.Nodup := (List.nodup_cons.mp m4).2
      have base : Paired (fun a ks => B.H0 a = none ∧ ∃ es, H3 a = some (DXO B.P B.w a es) ∧ AlX B.K H3 ks es) as kss := Paired.mapP m5 fun a ks ⟨n, es, ha, hal⟩ => ⟨n, es, e3 _ _ (e2 _ _ ha), hal.st (Same.im (Same.trans e2 e3))⟩
      have gen : ∀ (as' : List Addr) (kss' : List (List (List Int × Rel))) (i : Nat), as'.Nodup → as'[i]? = some as[j] → kss'[i]? = some (kss.getD j []) → Paired (fun a ks => B.H0 a = none ∧ ∃ es, H3 a = some (DXO B.P B.w a es) ∧ AlX B.K H3 ks es) as' kss' →
          Paired (fun a ks => B.H0 a = none ∧ ∃ es', upd H3 as[j] (DXO B.P B.w as[j] (putE es (ik kk) b v)) a = some (DXO B.P B.w a es') ∧ AlX B.K (upd H3 as[j] (DXO B.P B.w as[j] (putE es (ik kk) b v))) ks es') as' (kss'.set i (putM (kss.getD j []) kk rv)) := by
        intro as' kss' i nd' h1' h2' p
        induction p generalizing i with
        | nil => simp at h1'
        | @cons a ks as'' kss'' hh t ih =>
          rw [List.nodup_cons] at nd'
          cases i with
          | zero =>
            simp at h1' h2'
            subst h1'
            refine .cons ⟨hh.1, _, upd_same, AlX.st im3 (hal3.put hb (Rel.st _ (Same.im (Same.trans e2 e3)) pv))⟩ ?_
            have off : ∀ a' ∈ as'', a' ≠ as[j] := fun a' ha' z => nd'.1 (z ▸ ha')
            clear ih nd'
            induction t with
            | nil => exact .nil
            | @cons a' ks' l1 l2 hh' t' ih' =>
              obtain ⟨n', es', q1, q2⟩ := hh'
              exact .cons ⟨n', es', by rw [upd_ne (off a' (List.mem_cons_self ..))]; exact q1, q2.st im3⟩ (ih' fun b hb => off b (List.mem_cons_of_mem _ hb))
          | succ i =>
            have h1'' : as''[i]? = some as[j] := by simpa using h1'
            obtain ⟨n', es', q1, q2⟩ := hh
            have ne : a ≠ as[j] := fun z => nd'.1 (z ▸ List.mem_of_getElem? h1'')
            exact .cons ⟨n', es', by rw [upd_ne ne]; exact q1, q2.st im3⟩ (ih i nd'.2 h1'' (by simpa using h2'))
      exact gen as kss j nd (List.getElem?_eq_getElem hja) hks base
/-- a loop, with more than the slots kept -/
theorem ws_forM {α S : Type} (L : List α) {g : α → Rel} (s0 : S) (step : S → α → S) (Γs : S → Ctx) (M : S → L2.St → Hp → Prop) (js : List Nat) (hM : ∀ s σ H σ' H', M s σ H → Same H H' → (∀ i, i ∉ js → σ'[i]? = σ[i]?) → M s σ' H') {wi : TI} {g' : TG} {tb tz : TS} {σ0 : L2.St} {H0 : Hp}
    (E0 : Env B Γ σ0 H0) (m0 : M s0 σ0 H0) (hw : WpI B Γ wi fun n rs => n = L.length ∧ (∀ i (hi : i < L.length), rs i = g L[i]) ∧ Weak Γ (Γs s0) ∧
      (∀ i (hi : i < L.length), ∀ G st, ∃ Γ2, WpG (B.more G st) (Γs ((L.take i).foldl step s0)) g' (g L[i]) js Γ2 ∧
        ∀ σ H, Env (B.more G st) Γ2 σ H → M ((L.take i).foldl step s0) σ H → tb { D with nx := fun σ H => Env (B.more G st) (Γs (step ((L.take i).foldl step s0) L[i])) σ H ∧ M (step ((L.take i).foldl step s0) L[i]) σ H, ct := fun σ H => Env (B.more G st) (Γs (step ((L.take i).foldl step s0) L[i])) σ H ∧ M (step ((L.take i).foldl step s0) L[i]) σ H, bk := tz D } σ H) ∧
      ∀ σ H, Env B (Γs (L.foldl step s0)) σ H → M (L.foldl step s0) σ H → tz D σ H) : tSeq (tFor wi g' tb) tz D σ0 H0 := by
  refine hw σ0 H0 E0 _ fun J n rs G Y H1 ⟨hn, hr, hwk, hs, hz⟩ e w hG im hY => ?_
  subst hn
  refine for_it w (fun i σ H => Env (B.more G im) (Γs ((L.take i).foldl step s0)) σ H ∧ M ((L.take i).foldl step s0) σ H) ⟨((E0.mono e).wk hwk).more hG, hM _ _ _ _ _ m0 e fun _ _ => rfl⟩ (fun i σ H _ p => p.1.fx.2) (fun i x σ' H2 H3 hi p y => ?_) fun σ' H2 p => ?_
  · obtain ⟨e1, px⟩ := hY i H2 x H3 hi p.1.fx.2 y
    rw [hr i hi] at px
    obtain ⟨Γ2, hg, hb⟩ := hs i hi G im
    refine hg σ' H3 x (p.1.mono e1) px _ fun σ2 H4 E2 e2 hj _ => ?_
    have q := hb σ2 H4 E2 (hM _ _ _ _ _ p.2 (Same.trans e1 e2) hj)
    have et : (L.take (i + 1)).foldl step s0 = step ((L.take i).foldl step s0) L[i] := by
      rw [take_succ_at hi, List.foldl_append]
      rfl
    rw [et]
    exact q
  · rw [List.take_length] at p
    exact hz σ' H2 p.1.less p.2
end
/-! ### all of them are not changed any more -/
def tFrzAll (f : Nat) (t : TS) : TS := fun D σ H => ∃ l as us, σ[f]? = some (some (V.ref l)) ∧ H l = some (.lst (as.map V.ref)) ∧ (l :: as).Nodup ∧ Paired (fun a u => H a = some u ∧ Mut (some u)) as us ∧
  ∀ H' o, (∀ b, b ∉ l :: as → H' b = H b) → H' l = some (.frz o (.lst (as.map V.ref))) → Paired (fun a u => ∃ o, H' a = some (.frz o u)) as us → t D σ H'
theorem paired_off {H H' : Hp} : ∀ {as : List Addr} {us : List HO}, (∀ b ∈ as, H' b = H b) → Paired (fun a u => H a = some u ∧ Mut (some u)) as us → Paired (fun a u => H' a = some u ∧ Mut (some u)) as us
  | _, _, _, .nil => .nil
  | _, _, g, .cons h t => .cons ⟨by rw [g _ (List.mem_cons_self ..)]; exact h.1, h.2⟩ (paired_off (fun b hb => g b (List.mem_cons_of_mem _ hb)) t)
theorem lock_all {X : Cx} {pins : List (Addr × Obj)} {σ : L2.St} {s : Shared} : ∀ {as : List Addr} {us : List HO} {H : Hp}, Inv X pins σ H s → as.Nodup → Paired (fun a u => H a = some u ∧ Mut (some u)) as us →
    ∃ H', Inv X pins σ H' s ∧ (∀ b, b ∉ as → H' b = H b) ∧ Paired (fun a u => ∃ o, H' a = some (.frz o u)) as us
  | _, _, H, I, _, .nil => ⟨H, I, fun _ _ => rfl, .nil⟩
  | a :: as, u :: us, H, I, nd, .cons h t => by
    rw [List.nodup_cons] at nd
    obtain ⟨o, I1⟩ := I.lock h.1 h.2
    have t' : Paired (fun b v => upd H a (.frz o u) b = some v ∧ Mut (some v)) as us := paired_off (fun b hb => upd_ne (fun z => nd.1 (z ▸ hb))) t
    obtain ⟨H', I2, k, p⟩ := lock_all I1 nd.2 t'
    refine ⟨H', I2, fun b hb => ?_, .cons ⟨o, ?_⟩ p⟩
    · rw [List.mem_cons, not_or] at hb
      rw [k b hb.2, upd_ne hb.1]
    · rw [k a nd.1, upd_same]
theorem pss_frzAll {X : Cx} {sts : List Stmt} {t : TS} (f : Nat) (h : PSs X sts t) : PSs X sts (tFrzAll f t) := by
  refine ⟨fun pins s σ H D I hw => ?_⟩
  obtain ⟨l, as, us, _, hl, nd, hp, q⟩ := hw
  obtain ⟨H1, I1, k1, p1⟩ := lock_all (as := l :: as) (us := .lst (as.map V.ref) :: us) I nd (.cons ⟨hl, trivial⟩ hp)
  cases p1 with
  | cons h1 t1 =>
    obtain ⟨o, h1⟩ := h1
    exact h.run pins s σ _ D I1 (q H1 o k1 h1 t1)
theorem ws_frzAll {B : Bd} {Γ : Ctx} {D : Ends} {f : Nat} {kss : List (List (List Int × Rel))} {t : TS} {σ : L2.St} {H : Hp} (hn : NoM Γ) (hf : f < Γ.length) (E : Env B Γ σ H) (M : MX B f kss σ H) (h : WpS B D (Γ.set f (.im (rLst (kss.map fun ks => rDct B.P B.w B.K ks)))) t) : tFrzAll f t D σ H := by
  obtain ⟨l, as, m1, m2, m3, m4, m5⟩ := M
  have nd := List.nodup_cons.mp m4
  have at_ : ∀ {as : List Addr} {kss : List (List (List Int × Rel))}, Paired (fun a ks => B.H0 a = none ∧ ∃ es, H a = some (DXO B.P B.w a es) ∧ AlX B.K H ks es) as kss → ∀ a ∈ as, B.H0 a = none ∧ ∃ es, H a = some (DXO B.P B.w a es) := by
    intro as kss p
    induction p with
    | nil => intro a ha; cases ha
    | cons h t ih =>
      intro a ha
      rcases List.mem_cons.mp ha with z | z
      · subst z; exact ⟨h.1, h.2.imp fun _ q => q.1⟩
      · exact ih a z
  have ha := at_ m5
  have us : Paired (fun a u => H a = some u ∧ Mut (some u)) as (as.map fun a => (H a).getD (.lst [])) := by
    have gen : ∀ as' : List Addr, (∀ a ∈ as', ∃ es, H a = some (DXO B.P B.w a es)) → Paired (fun a u => H a = some u ∧ Mut (some u)) as' (as'.map fun a => (H a).getD (.lst [])) := by
      intro as'
      induction as' with
      | nil => intro _; exact .nil
      | cons a as' ih =>
        intro g
        obtain ⟨es, e⟩ := g a (List.mem_cons_self ..)
        have e' : (H a).getD (.lst []) = DXO B.P B.w a es := by rw [e]; rfl
        exact .cons ⟨by show H a = some ((H a).getD (.lst [])); rw [e', e], by show Mut (some ((H a).getD (.lst []))); rw [e']; exact trivial⟩ (ih fun b hb => g b (List.mem_cons_of_mem _ hb))
    exact gen as fun a h => (ha a h).2
  refine ⟨l, as, _, m1, m3, m4, us, fun H' o k hl p => ?_⟩
  have pa : ∀ a ∈ as, ∃ o, H' a = some (.frz o ((H a).getD (.lst []))) := by
    have gen : ∀ as' : List Addr, Paired (fun a u => ∃ o, H' a = some (.frz o u)) as' (as'.map fun a => (H a).getD (.lst [])) → ∀ a ∈ as', ∃ o, H' a = some (.frz o ((H a).getD (.lst []))) := by
      intro as'
      induction as' with
      | nil => intro _ a h; cases h
      | cons a as' ih =>
        intro g b hb
        rw [List.map_cons] at g
        cases g with
        | cons h t =>
          rcases List.mem_cons.mp hb with z | z
          · subst z; exact h
          · exact ih t b z
    exact gen as p
  have im : Im H H' := fun b u nc e => by
    rw [k b fun hb => ?_]
    · exact e
    · rcases List.mem_cons.mp hb with z | z
      · rw [z, m3] at e; cases e; exact nc lst_c
      · obtain ⟨es, q⟩ := (ha b z).2
        rw [q] at e; cases e; exact nc dx_c
  have ex : Same B.H0 H' := fun b u e => by
    rw [k b fun hb => ?_]
    · exact E.ex b u e
    · rcases List.mem_cons.mp hb with z | z
      · rw [z, m2] at e; cases e
      · rw [(ha b z).1] at e; cases e
  refine h σ H' ⟨by rw [List.length_set]; exact E.len, ex, B.fs _ _ im E.fx, fun i t e => ?_, fun i j t u l hij e1 e2 mu1 mu2 q1 q2 => ?_⟩
  · by_cases hi : f = i
    · subst hi
      obtain ⟨_, rfl⟩ := set_at e
      refine ⟨_, m1, .ref l, rfl, l, o, as.map V.ref, rfl, hl, ?_⟩
      have gen : ∀ {as' : List Addr} {kss' : List (List (List Int × Rel))}, (∀ a ∈ as', a ∈ as) → Paired (fun a ks => B.H0 a = none ∧ ∃ es, H a = some (DXO B.P B.w a es) ∧ AlX B.K H ks es) as' kss' → Al H' (kss'.map fun ks => rDct B.P B.w B.K ks) (as'.map V.ref) := by
        intro as' kss' sub q
        induction q with
        | nil => exact .nil
        | @cons a ks l1 l2 h t ih =>
          obtain ⟨_, es, q1, q2⟩ := h
          obtain ⟨o', q3⟩ := pa a (sub a (List.mem_cons_self ..))
          rw [q1] at q3
          exact .cons ⟨a, o', es, rfl, q3, q2.st im⟩ (ih fun b hb => sub b (List.mem_cons_of_mem _ hb))
      exact gen (fun _ h => h) m5
    · rw [List.getElem?_set_ne hi] at e
      obtain ⟨ov, h1, h2⟩ := E.ty i t e
      refine ⟨ov, h1, ?_⟩
      cases t with
      | no => trivial
      | im r => obtain ⟨v, c1, c2⟩ := h2; exact ⟨v, c1, r.st im c2⟩
      | ml rs => exact nomatch (hn i _ e)
      | mx ks => exact nomatch (hn i _ e)
  · have n1 : f ≠ i := fun z => by subst z; obtain ⟨_, rfl⟩ := set_at e1; cases mu1
    rw [List.getElem?_set_ne n1] at e1
    rw [hn i _ e1] at mu1
    cases mu1
end BX
set_option Elab.async false
set_option linter.all false
set_option maxRecDepth 100000
set_option maxHeartbeats 1000000
/-! BXr: the hand of a script and its draws. -/
namespace BX
open PySem PySem.Spec PyProof.Rows L2
/-! ### the hand and its draws, as they stand in the heap -/
def hkv (c : Addr) (t g s u : Int) : List (Key × V) := [(.inr "cells", .ref c), (.inr "at", .int t), (.inr "great", .int g), (.inr "seed", .int s), (.inr "turn", .int u)]
def hH (H : Hp) (a c : Addr) (t g s u : Int) : Hp := upd H a (.dK (hkv c t g s u))
theorem hH_at (H : Hp) (a c : Addr) (t g s u : Int) : hH H a c t g s u a = some (.dK (hkv c t g s u)) := upd_same
def EvI (σ : L2.St) (H : Hp) (te : TE) (i : Int) : Prop := ∀ Q : VK, Q (.int i) H → te σ H Q
section
variable {σ : L2.St} {H : Hp} {ta tb : TE} {i j : Int}
theorem ev_c : EvI σ H (tC (.int i)) i := fun Q q => q
theorem ev_var {n : Nat} (h : σ[n]? = some (some (.int i))) : EvI σ H (tVar n) i := fun Q q => ⟨_, h, q⟩
theorem ev_op0 {g : Int → Int → Int} (ha : EvI σ H ta i) (hb : EvI σ H tb j) : EvI σ H (tOp (rI0 fun i j => .int (g i j)) ta tb) (g i j) := fun Q q => ha _ (hb _ ⟨i, j, rfl, rfl, q⟩)
theorem ev_op {C : Int → Int → Prop} {g : Int → Int → Int} (ha : EvI σ H ta i) (hb : EvI σ H tb j) (hc : C i j) : EvI σ H (tOp (rI C fun i j => .int (g i j)) ta tb) (g i j) := fun Q q => ha _ (hb _ ⟨i, j, rfl, rfl, hc, q⟩)
theorem ev_int (ha : EvI σ H ta i) : EvI σ H (tCB rInt1 (tCons ta tNil)) i := fun Q q => ha _ (.inl ⟨i, rfl, q⟩)
theorem ev_get {a : Addr} {kvs : List (Key × V)} {k : Str} (h0 : σ[0]? = some (some (.ref a))) (hH : H a = some (.dK kvs)) (hv : valV kvs (.inr k) = some (.int i)) : EvI σ H (tDGet (tVar 0) (tC (.str k))) i := fun Q q =>
  ⟨_, h0, a, .int i, rfl, by have := DGet.k (k := .inr k) hH; rw [hv] at this; exact this, q⟩
theorem st_asg {D : Ends} {n : Nat} (h : EvI σ H ta i) (q : D.nx (σ.set n (some (.int i))) H) : tAsg ta (gName n) D σ H := h _ q
theorem st_put {D : Ends} {a : Addr} {kvs : List (Key × V)} {k : Str} (h : EvI σ H ta i) (h0 : σ[0]? = some (some (.ref a))) (hH : H a = some (.dK kvs)) (hl : kvs.length < sizeLine) (q : D.nx σ (upd H a (.dK (putK kvs (.inr k) (.int i))))) : sDPut (tVar 0) (tC (.str k)) ta D σ H :=
  h _ ⟨_, h0, a, _, rfl, DPut.k (k := .inr k) hH hl, q⟩
theorem st_ret {D : Ends} (h : EvI σ H ta i) (q : D.rt (.int i) H) : tRet ta D σ H := h _ q
theorem tt_op0 {g : Int → Int → Bool} {Q : Bool → Hp → Prop} (ha : EvI σ H ta i) (hb : EvI σ H tb j) (q : Q (g i j) H) : tTest (tOp (rI0 fun i j => .bl (g i j)) ta tb) σ H Q := ha _ (hb _ ⟨i, j, rfl, rfl, _, rfl, q⟩)
theorem tt_eq {Q : Bool → Hp → Prop} (ha : EvI σ H ta i) (hb : EvI σ H tb j) (q : Q (decide (V.int i = V.int j)) H) : tTest (tOp rEq ta tb) σ H Q := ha _ (hb _ ⟨rfl, _, rfl, q⟩)
end
theorem cmulR {i j : Int} (h1 : -(2 ^ 64) < j) (h2 : j < 2 ^ 64) : CMul i j := .inr ⟨h1, h2⟩
theorem cmulL {i j : Int} (h1 : -(2 ^ 64) < i) (h2 : i < 2 ^ 64) : CMul i j := .inl ⟨h1, h2⟩
/-- what a draw is asked and does -/
def spDraw0 (K : PySem.W.Frag) : Sp := fun vs H Q E => ∃ (a c : Addr) (ns : List Int) (many t g s u : Int) (H0 : Hp), vs = [.ref a, .int many] ∧ H = hH H0 a c t g s u ∧ (∀ t g s u, SqL K (hH H0 a c t g s u) c (ns.map V.int)) ∧
  0 < many ∧ many < 1073741824 ∧ 0 ≤ t ∧ ∀ d t' g' s' u' : Int, 0 ≤ d → d < many → 0 ≤ t' → Q (.int d) (hH H0 a c t' g' s' u')
theorem hH_put (H0 : Hp) (a c : Addr) (t g s u t' g' s' u' : Int) : upd (hH H0 a c t g s u) a (.dK (hkv c t' g' s' u')) = hH H0 a c t' g' s' u' := upd_upd
theorem putAt {c : Addr} {t g s u i : Int} : putK (hkv c t g s u) (.inr "at") (.int i) = hkv c i g s u := rfl
theorem putGr {c : Addr} {t g s u i : Int} : putK (hkv c t g s u) (.inr "great") (.int i) = hkv c t i s u := rfl
theorem putSe {c : Addr} {t g s u i : Int} : putK (hkv c t g s u) (.inr "seed") (.int i) = hkv c t g i u := rfl
theorem putTu {c : Addr} {t g s u i : Int} : putK (hkv c t g s u) (.inr "turn") (.int i) = hkv c t g s i := rfl
section
variable {σ : L2.St} {H0 : Hp} {te : TE} {D : Ends} {a c : Addr} {t g s u i : Int}
theorem st_at (h : EvI σ (hH H0 a c t g s u) te i) (h0 : σ[0]? = some (some (.ref a))) (q : D.nx σ (hH H0 a c i g s u)) : sDPut (tVar 0) (tC (.str "at")) te D σ (hH H0 a c t g s u) := st_put h h0 (hH_at ..) (Nat.le_of_ble_eq_true rfl) (by rw [putAt, hH_put]; exact q)
theorem st_gr (h : EvI σ (hH H0 a c t g s u) te i) (h0 : σ[0]? = some (some (.ref a))) (q : D.nx σ (hH H0 a c t i s u)) : sDPut (tVar 0) (tC (.str "great")) te D σ (hH H0 a c t g s u) := st_put h h0 (hH_at ..) (Nat.le_of_ble_eq_true rfl) (by rw [putGr, hH_put]; exact q)
theorem st_se (h : EvI σ (hH H0 a c t g s u) te i) (h0 : σ[0]? = some (some (.ref a))) (q : D.nx σ (hH H0 a c t g i u)) : sDPut (tVar 0) (tC (.str "seed")) te D σ (hH H0 a c t g s u) := st_put h h0 (hH_at ..) (Nat.le_of_ble_eq_true rfl) (by rw [putSe, hH_put]; exact q)
theorem st_tu (h : EvI σ (hH H0 a c t g s u) te i) (h0 : σ[0]? = some (some (.ref a))) (q : D.nx σ (hH H0 a c t g s i)) : sDPut (tVar 0) (tC (.str "turn")) te D σ (hH H0 a c t g s u) := st_put h h0 (hH_at ..) (Nat.le_of_ble_eq_true rfl) (by rw [putTu, hH_put]; exact q)
theorem ev_at (h0 : σ[0]? = some (some (.ref a))) : EvI σ (hH H0 a c t g s u) (tDGet (tVar 0) (tC (.str "at"))) t := ev_get h0 (hH_at ..) rfl
theorem ev_gr (h0 : σ[0]? = some (some (.ref a))) : EvI σ (hH H0 a c t g s u) (tDGet (tVar 0) (tC (.str "great"))) g := ev_get h0 (hH_at ..) rfl
theorem ev_se (h0 : σ[0]? = some (some (.ref a))) : EvI σ (hH H0 a c t g s u) (tDGet (tVar 0) (tC (.str "seed"))) s := ev_get h0 (hH_at ..) rfl
theorem ev_tu (h0 : σ[0]? = some (some (.ref a))) : EvI σ (hH H0 a c t g s u) (tDGet (tVar 0) (tC (.str "turn"))) u := ev_get h0 (hH_at ..) rfl
end
theorem cmulS {i m k x : Int} (hm : 0 < m) (hm2 : m < 2 ^ 32) (h : x = i % m) : CMul x k := by
  refine cmulL ?_ ?_ <;> (have := Int.emod_nonneg i (show m ≠ 0 by omega); have := Int.emod_lt_of_pos i hm; omega)
theorem st_seqJ {s u : TS} {D : Ends} {σ : L2.St} {H : Hp} (J : L2.St → Hp → Prop) (h : ∀ nx' : L2.St → Hp → Prop, (∀ σ H, J σ H → nx' σ H) → s { D with nx := nx' } σ H) (h2 : ∀ σ H, J σ H → u D σ H) : tSeq s u D σ H := h _ h2
/-! ### the hand as a thing that stays -/
section
variable (P : Program) (w : World)
def handφ (a c : Addr) (h : Heap) : Prop := ∃ t g s u : Int, 0 ≤ t ∧ (a == sysModules) = false ∧ ∃ vs, KV (hkv c t g s u) vs ∧ h.DictOf (mixKind P w) a vs
def handO (a c : Addr) : HO := .ext (handφ P w a c)
end
/-- one object alone -/
def onlyH (h : Heap) (a : Addr) : Heap := { h with objs := h.objs.mapIdx fun i o => if i = a then o else { o with data := .freed } }
theorem onlyH_at (h : Heap) (a : Addr) : (onlyH h a).get? a = h.get? a := by
  unfold onlyH Heap.get?
  rw [Array.getElem?_mapIdx]
  cases h.objs[a]? with
  | none => rfl
  | some o => show (match some (if a = a then o else _) with | some ⟨_, _, .freed, _⟩ => none | o => o) = _; rw [if_pos rfl]; rfl
theorem onlyH_off {h : Heap} {a b : Addr} {o : Obj} (e : (onlyH h a).get? b = some o) : b = a := by
  by_cases c : b = a
  · exact c
  · unfold onlyH Heap.get? at e
    rw [Array.getElem?_mapIdx] at e
    cases q : h.objs[b]? with
    | none => rw [q] at e; cases e
    | some o' => rw [q, Option.map_some, if_neg c] at e; cases e
theorem handφ_stay {P : Program} {w : World} {a c : Addr} : ∀ h1 h2 : Heap, handφ P w a c h1 → (∀ o, h1.get? a = some o → h2.get? a = some o) → handφ P w a c h2 := fun h1 h2 ⟨t, g, s, u, ht, hs, vs, kv, o, es, ep, e, q⟩ k => ⟨t, g, s, u, ht, hs, vs, kv, o, es, ep, k o e, q⟩
theorem hand_nc {P : Program} {w : World} {a c : Addr} {h : Heap} (hφ : handφ P w a c h) : ¬ Chg (handO P w a c) := by
  rintro (⟨_, e⟩ | ⟨_, e⟩ | ⟨_, e⟩ | ⟨P', w', a', ks, e⟩)
  · cases e
  · cases e
  · cases e
  · have e' : handφ P w a c = dxφ P' w' a' ks := HO.ext.inj e
    have h1 := handφ_stay h (onlyH h a) hφ fun o q => by rw [onlyH_at]; exact q
    have h2 := h1
    rw [e'] at h2
    obtain ⟨_, _, xs, _, o, es, ep, g, _, gd, gl, _⟩ := h2
    obtain ⟨t, gg, s, u, ht, hs, vs, kv, o', es', ep', g', _, gd', _, pr, _⟩ := h1
    have : a' = a := onlyH_off g
    subst this
    rw [g] at g'
    cases g'
    rw [gd] at gd'
    cases gd'
    rw [gl] at pr
    cases kv with
    | cons k0 kt =>
      cases xs with
      | nil => cases pr
      | cons x xs =>
        cases pr with
        | cons p0 _ _ =>
          rw [← k0.1] at p0
          cases p0
theorem hk_swap {P : Program} {w : World} {H : Hp} {h : Heap} {a : Addr} {o o' : HO} (x : HOk P w H h) (ha : H a = some o) (h1 : ∀ xs, o ≠ .tup xs) (h2 : ∀ b, o ≠ .own b) (ok : ObjOk P w (upd H a o') h a o') : HOk P w (upd H a o') h := fun b u e => by
  by_cases c : b = a
  · subst c
    rw [upd_same] at e
    cases e
    exact ok
  · rw [upd_ne c] at e
    refine (x b u e).stay (fun _ _ _ q => q) (fun d q => ?_) fun d xs q => ?_
    · rw [upd_ne (fun z => by rw [z, ha] at q; exact h2 _ (Option.some.inj q))]; exact q
    · rw [upd_ne (fun z => by rw [z, ha] at q; exact h1 _ (Option.some.inj q))]; exact q
/-- a hand -/
def rHand (P : Program) (w : World) : Rel := ⟨fun v H => ∃ (a c : Addr) (o : Obj) (ns : List Int), v = .ref a ∧ H a = some (handO P w a c) ∧ H c = some (.frz o (.lst (ns.map V.int))) ∧ ¬ Chg (handO P w a c),
  fun im ⟨a, c, o, ns, e, h1, h2, h3⟩ => ⟨a, c, o, ns, e, im _ _ h3 h1, im _ _ frz_nc h2, h3⟩⟩
/-- what a draw promises -/
def S_draw (P : Program) (w : World) : Spc := fun rs k => ∃ many : Int, rs = [rHand P w, rInt many] ∧ 0 < many ∧ many < 1073741824 ∧ ∀ d : Int, 0 ≤ d → d < many → k (rInt d)
theorem hH_back {P : Program} {w : World} {H : Hp} {a c : Addr} {t g s u : Int} {o : HO} (h : H a = some o) : upd (hH H a c t g s u) a o = H := funext fun b => by
  by_cases e : b = a
  · rw [e, upd_same, h]
  · rw [upd_ne e]; exact upd_ne e
theorem hand_of {P : Program} {w : World} {H : Hp} {h : Heap} {a c : Addr} {t g s u : Int} (ok : HOk P w (hH H a c t g s u) h) (ht : 0 ≤ t) : handφ P w a c h ∧ ∃ o, h.get? a = some o := by
  obtain ⟨_, hs, vs, kv, o, es, ep, e, q⟩ := ok a _ (hH_at ..)
  exact ⟨⟨t, g, s, u, ht, hs, vs, kv, o, es, ep, e, q⟩, o, e⟩
theorem draw_re {P : Program} {w : World} {K : PySem.W.Frag} {mg : Str → Option Value} {base : Heap} {k : Nat} {f : Addr} {fd : FuncData} {x y : Str} (F : FnOk P w K mg base CX0 k f fd [x, y] (spDraw0 K)) : FnOk P w K mg base CX0 k f fd [x, y] (spOf (S_draw P w)) := by
  refine BX.FnOk.re F (len_of fun rs k ⟨many, e, _⟩ => by subst e; rfl) fun vs H Q E hp ok ⟨rs, k, hal, ⟨many, e, hm, hm2, hk⟩, hQ⟩ => ?_
  subst e
  cases hal with
  | cons h1 t1 =>
    cases t1 with
    | cons h2 t2 =>
      cases t2
      obtain ⟨a, c, o, ns, rfl, ha, hc, nc⟩ := h1
      cases h2
      obtain ⟨⟨t, g, s, u, ht, hs, kvs, kv, dof⟩, ⟨ob, hob⟩, _⟩ := ok a _ ha
      have hne : c ≠ a := fun z => by rw [z, ha] at hc; cases hc
      refine ⟨hH H a c t g s u, Re.put ha (fun _ z => nomatch z) (fun _ _ z => nomatch z) (fun _ z => nomatch z) (fun _ z => nomatch z) (fun _ _ z => nomatch z) (fun _ z => nomatch z), hk_swap ok ha (fun _ z => nomatch z) (fun _ z => nomatch z) ⟨Nat.le_of_ble_eq_true rfl, hs, kvs, kv, dof⟩,
        a, c, ns, many, t, g, s, u, H, rfl, rfl, fun t g s u => .inl (.inr ⟨o, by show upd _ _ _ _ = _; rw [upd_ne hne]; exact hc⟩), hm, hm2, ht, fun d t' g' s' u' d0 d1 ht' hp' ok' => ?_⟩
      obtain ⟨hφ, hob'⟩ := hand_of ok' ht'
      refine ⟨H, ?_, ?_, hQ (rInt d) (.int d) H (hk d d0 d1) rfl (Same.refl H)⟩
      · have := Re.put (o' := handO P w a c) (hH_at H a c t' g' s' u') (fun _ z => nomatch z) (fun _ _ z => nomatch z) (fun _ z => nomatch z) (fun _ z => nomatch z) (fun _ _ z => nomatch z) (fun _ z => nomatch z)
        rw [hH_back (P := P) (w := w) ha] at this
        exact this
      · have := hk_swap (o' := handO P w a c) ok' (hH_at H a c t' g' s' u') (fun _ z => nomatch z) (fun _ z => nomatch z) ⟨hφ, hob', handφ_stay⟩
        rw [hH_back (P := P) (w := w) ha] at this
        exact this
/-- the script: a list of ints that nobody changes -/
def rScr (K : PySem.W.Frag) (ns : List Int) : Rel := ⟨fun v H => ∃ a, v = .ref a ∧ ((∃ o, H a = some (.frz o (.lst (ns.map V.int)))) ∨ ∃ (o : Obj) (its : Array Value) (n : Nat), K.lookup a = some o ∧ o.cls = .type "list" ∧ o.dict = none ∧ o.data = .seq its n ∧ its.size ≤ sizeLine ∧ Vals (ns.map V.int) its.toList),
  fun e ⟨a, h1, h2⟩ => ⟨a, h1, h2.imp (fun ⟨o, h⟩ => ⟨o, e _ _ frz_nc h⟩) id⟩⟩
theorem rScr_sq {K : PySem.W.Frag} {ns : List Int} {v : V} {H : Hp} (h : (rScr K ns).p v H) : ∃ a, v = .ref a ∧ SqL K H a (ns.map V.int) := by
  obtain ⟨a, e, h⟩ := h
  refine ⟨a, e, ?_⟩
  rcases h with ⟨o, h⟩ | h
  · exact .inl (.inr ⟨o, h⟩)
  · exact .inr h
theorem rScr_of {K : PySem.W.Frag} {ns : List Int} {a : Addr} {H : Hp} (hO : Only H) (h : SqL K H a (ns.map V.int)) : (rScr K ns).p (.ref a) H := by
  refine ⟨a, rfl, ?_⟩
  rcases h with (h | h) | h
  · rcases hO a with z | ⟨o, xs, z⟩
    · rw [z] at h; cases h
    · rw [z] at h; cases h
  · exact .inl h
  · exact .inr h
/-- what the making of a hand does -/
def spHand0 (K : PySem.W.Frag) : Sp := fun vs H Q E => ∃ ns : List Int, Al H [rScr K ns] vs ∧ ns.length ≤ sizeLine ∧ ∀ (p c : Addr) (o : Obj) (ns' : List Int) (s : Int) (H' : Hp), Same H H' → H' p = none → H' c = some (.frz o (.lst (ns'.map V.int))) → Q (.ref p) (hH H' p c 0 0 s 0)
def S_hand (P : Program) (w : World) (K : PySem.W.Frag) : Spc := fun rs k => ∃ ns : List Int, rs = [rScr K ns] ∧ ns.length ≤ sizeLine ∧ k (rHand P w)
theorem hand_re {P : Program} {w : World} {K : PySem.W.Frag} {mg : Str → Option Value} {base : Heap} {k : Nat} {f : Addr} {fd : FuncData} {x : Str} (F : FnOk P w K mg base CX0 k f fd [x] (spHand0 K)) : FnOk P w K mg base CX0 k f fd [x] (spOf (S_hand P w K)) := by
  refine BX.FnOk.re F (len_of fun rs k ⟨ns, e, _⟩ => by subst e; rfl) fun vs H Q E hp ok ⟨rs, k, hal, ⟨ns, e, hz, hk⟩, hQ⟩ => ?_
  subst e
  refine ⟨H, Re.refl H, ok, ns, hal, hz, fun p c o ns' s H' sm hn hc hp' ok' => ?_⟩
  obtain ⟨hφ, hob'⟩ := hand_of ok' (Int.le_refl 0)
  have hne : c ≠ p := fun z => by rw [z, hn] at hc; cases hc
  have e : upd (hH H' p c 0 0 s 0) p (handO P w p c) = upd H' p (handO P w p c) := upd_upd
  refine ⟨upd H' p (handO P w p c), ?_, ?_, hQ (rHand P w) (.ref p) _ hk ⟨p, c, o, ns', rfl, upd_same, by rw [upd_ne hne]; exact hc, hand_nc hφ⟩ (Same.put sm (Same.free sm hn))⟩
  · have := Re.put (o' := handO P w p c) (hH_at H' p c 0 0 s 0) (fun _ z => nomatch z) (fun _ _ z => nomatch z) (fun _ z => nomatch z) (fun _ z => nomatch z) (fun _ _ z => nomatch z) (fun _ z => nomatch z)
    rw [e] at this
    exact this
  · have := hk_swap (o' := handO P w p c) ok' (hH_at H' p c 0 0 s 0) (fun _ z => nomatch z) (fun _ z => nomatch z) ⟨hφ, hob', handφ_stay⟩
    rw [e] at this
    exact this
/-- a new list, a part of another -/
theorem wl_slL {B : Bd} {Γ : Ctx} {te : TE} {tl th : TO} {kl : List Rel → Prop} (h : WpE B Γ te fun r => ∃ rs, r = rLst rs ∧ WpO B Γ tl fun lo => WpO B Γ th fun hi => kl (cutR rs lo hi)) : WpL B Γ (tSl (rSlL B.K) te tl th) kl := fun σ H E Q hQ =>
  h σ H E _ fun r v H1 ⟨rs, er, h1⟩ p e1 => h1 σ H1 (E.mono e1) _ fun lo H2 h2 e2 => h2 σ H2 (E.mono (Same.trans e1 e2)) _ fun hi H3 hk e3 => by
    subst er
    have e13 := Same.trans e1 (Same.trans e2 e3)
    obtain ⟨a, o, xs, rfl, hs, hal⟩ := Rel.st _ (Same.im (Same.trans e2 e3)) p
    have hl : xs.length = rs.length := (Paired.length hal).symm
    refine ⟨a, xs, rfl, .inl (.inr ⟨o, hs⟩), fun l hl' => hQ _ l _ _ hk (Same.free e13 hl') (Same.trans e13 (Same.new hl')) upd_same ?_⟩
    have q := Al.take (HT.sIx rs.length rs.length hi - HT.sIx rs.length 0 lo) (Al.drop (HT.sIx rs.length 0 lo) hal)
    unfold cutV cutR
    rw [hl]
    exact q.st (Same.im (Same.new hl'))
/-- a new list, a part of the script -/
theorem wl_slS {B : Bd} {Γ : Ctx} {te : TE} {tl th : TO} {kl : List Rel → Prop} (h : WpE B Γ te fun r => ∃ ns : List Int, r = rScr B.K ns ∧ WpO B Γ tl fun lo => WpO B Γ th fun hi => kl (cutR (ns.map rInt) lo hi)) : WpL B Γ (tSl (rSlL B.K) te tl th) kl := fun σ H E Q hQ =>
  h σ H E _ fun r v H1 ⟨rs, er, h1⟩ p e1 => h1 σ H1 (E.mono e1) _ fun lo H2 h2 e2 => h2 σ H2 (E.mono (Same.trans e1 e2)) _ fun hi H3 hk e3 => by
    subst er
    have e13 := Same.trans e1 (Same.trans e2 e3)
    obtain ⟨a, rfl, hs⟩ := rScr_sq (Rel.st _ (Same.im (Same.trans e2 e3)) p)
    refine ⟨a, _, rfl, hs, fun l hl' => hQ _ l _ _ hk (Same.free e13 hl') (Same.trans e13 (Same.new hl')) upd_same ?_⟩
    have hal : Al H3 (rs.map rInt) (rs.map V.int) := ints_al rs
    have q := Al.take (HT.sIx rs.length rs.length hi - HT.sIx rs.length 0 lo) (Al.drop (HT.sIx rs.length 0 lo) hal)
    unfold cutV cutR
    rw [List.length_map, List.length_map]
    exact q.st (Same.im (Same.new hl'))
theorem cutR_map {α β : Type} (f : α → β) (xs : List α) (lo hi : Option Int) : cutR (xs.map f) lo hi = (cutR xs lo hi).map f := by
  unfold cutR
  rw [List.length_map, List.map_take, List.map_drop]
theorem cutR_len {α : Type} (xs : List α) (lo hi : Option Int) : (cutR xs lo hi).length ≤ xs.length := by
  unfold cutR
  rw [List.length_take, List.length_drop]
  omega
theorem paired_snoc {α β : Type} {G : α → β → Prop} : ∀ {as : List α} {bs : List β} {a : α} {b : β}, Paired G as bs → G a b → Paired G (as ++ [a]) (bs ++ [b])
  | _, _, _, _, .nil, h => .cons h .nil
  | _, _, _, _, .cons x t, h => .cons x (paired_snoc t h)
/-- a comprehension whose elements are told by a property -/
theorem wl_lcN {B : Bd} {Γ : Ctx} {α β : Type} (L : List α) {g : α → Rel} {h : β → Rel} (Pr : α → β → Prop) {wi : TI} {g' : TG} {te : TE} {vs : List Nat} {kl : List Rel → Prop}
    (hw : WpI B Γ wi fun n rs => n = L.length ∧ (∀ i (hi : i < L.length), rs i = g L[i]) ∧ L.length ≤ sizeLine ∧
      (∀ x ∈ L, ∀ G st, ∃ Γ2 js, (∀ j, j ∈ js → j ∈ vs) ∧ WpG (B.more G st) (wipeC Γ vs) g' (g x) js Γ2 ∧ WpE (B.more G st) Γ2 te fun r => ∃ y, r = h y ∧ Pr x y) ∧ ∀ ys, Paired Pr L ys → kl (ys.map h)) : WpL B Γ (tLc wi g' tYes te vs) kl := by
  refine wl_lc fun σ H E R hR => hw σ H E R fun J n rs G Y H' ⟨hn, hr, hz, hs, hk⟩ => hR J n rs G Y H' ?_
  subst hn
  refine ⟨fun i es => ∃ ys, es = ys.map h ∧ Paired Pr (L.take i) ys, ⟨[], rfl, .nil⟩, fun i hi es ⟨ys, hes, hp⟩ G st => ?_, fun es ⟨ys, hes, hp⟩ => ?_⟩
  · obtain ⟨Γ2, js, h1, h2, h3⟩ := hs L[i] (List.getElem_mem hi) G st
    rw [← hr i hi] at h2
    refine ⟨Γ2, js, h1, h2, wt_yes ⟨fun _ => we_mono h3 fun r ⟨y, er, hy⟩ => ⟨?_, ys ++ [y], ?_, ?_⟩, fun z => nomatch z⟩⟩
    · have := Paired.length hp
      rw [List.length_take] at this
      subst hes
      rw [List.length_map]
      omega
    · rw [hes, er, List.map_append]
      rfl
    · rw [take_succ_at hi]
      exact paired_snoc hp hy
  · rw [List.take_length] at hp
    rw [hes]
    exact hk ys hp
/-- a loop over so many things as turn out, any state with a property -/
theorem ws_forQ {B : Bd} {Γ : Ctx} {D : Ends} {S : Type} (I : Nat → S → Prop) (s0 : S) (Γs : S → Ctx) {wi : TI} {g' : TG} {tb tz : TS}
    (hw : WpI B Γ wi fun n rs => Weak Γ (Γs s0) ∧ I 0 s0 ∧
      (∀ i, i < n → ∀ s, I i s → ∀ G st, ∃ Γ2 js, WpG (B.more G st) (Γs s) g' (rs i) js Γ2 ∧
        WpS (B.more G st) { D with nx := fun σ H => ∃ s', I (i + 1) s' ∧ Env (B.more G st) (Γs s') σ H, ct := fun σ H => ∃ s', I (i + 1) s' ∧ Env (B.more G st) (Γs s') σ H, bk := tz D } Γ2 tb) ∧
      ∀ s, I n s → WpS B D (Γs s) tz) : WpS B D Γ (tSeq (tFor wi g' tb) tz) := fun σ H E => by
  refine hw σ H E _ fun J n rs G Y H1 ⟨hwk, h0, hs, hz⟩ e w hG im hY => ?_
  refine for_it w (fun i σ H => ∃ s, I i s ∧ Env (B.more G im) (Γs s) σ H) ⟨s0, h0, ((E.mono e).wk hwk).more hG⟩ (fun i σ H _ ⟨s, _, p⟩ => p.fx.2) (fun i x σ' H2 H3 hi ⟨s, hI, p⟩ y => ?_) fun σ' H2 ⟨s, hI, p⟩ => hz s hI σ' H2 p.less
  obtain ⟨e1, px⟩ := hY i H2 x H3 hi p.fx.2 y
  obtain ⟨Γ2, js, hg, hb⟩ := hs i hi s hI G im
  exact hg σ' H3 x (p.mono e1) px _ fun σ2 H4 E2 e2 _ _ => hb σ2 H4 E2
end BX
set_option Elab.async false
set_option linter.all false
set_option maxRecDepth 100000
set_option maxHeartbeats 1000000
/-! BXs: == of data, zip of tuples, .. (for k01). -/
namespace BX
open PySem PySem.Spec PyProof.Rows L2
/-! ### == of nested tuples, told -/
def DpR (K : PySem.W.Frag) (r : Rel) (d : PyData) : Prop := ∀ v H, r.p v H → Dp K H v d
theorem dpR_int {K : PySem.W.Frag} (i : Int) : DpR K (rInt i) (.int i) := fun v H h => by cases h; exact .int i
theorem dpR_all {K : PySem.W.Frag} {H : Hp} : ∀ {rs : List Rel} {ds : List PyData} {vs : List V}, Paired (fun r d => DpR K r d) rs ds → Al H rs vs → DpAll K H vs ds
  | [], [], _, .nil, .nil => .nil
  | _ :: _, _ :: _, _, .cons h t, .cons p q => .cons (h _ _ p) (dpR_all t q)
theorem dpR_tup {K : PySem.W.Frag} {rs : List Rel} {ds : List PyData} (h : Paired (fun r d => DpR K r d) rs ds) : DpR K (rTup K rs) (.tuple ds) := fun v H ⟨a, xs, e, hs, hal⟩ => by
  subst e
  exact .tup hs (dpR_all h hal)
theorem paired_map {α β γ : Type} {G : β → γ → Prop} {f : α → β} {g : α → γ} : ∀ (L : List α), (∀ x, x ∈ L → G (f x) (g x)) → Paired G (L.map f) (L.map g)
  | [], _ => .nil
  | x :: L, h => .cons (h x (List.mem_cons_self ..)) (paired_map L fun y hy => h y (List.mem_cons_of_mem _ hy))
theorem dpR_key {K : PySem.W.Frag} (k : List Int) : DpR K (rKey K k) (keyD k) := dpR_tup (paired_map k fun i _ => dpR_int i)
theorem lay_ints : ∀ k : List Int, PyData.canLayAll0 (k.map PyData.int) = true ∧ PyData.depthAll (k.map PyData.int) = 0
  | [] => ⟨rfl, rfl⟩
  | x :: k => by
    obtain ⟨h1, h2⟩ := lay_ints k
    refine ⟨?_, ?_⟩
    · show (PyData.canLay0 (.int x) && PyData.canLayAll0 (k.map PyData.int)) = true
      rw [h1]
      rfl
    · show max (PyData.depth (.int x)) (PyData.depthAll (k.map PyData.int)) = 0
      rw [h2]
      rfl
theorem sh_key (k : List Int) : SeqAt.shaped (keyD k) = true := by
  obtain ⟨h1, h2⟩ := lay_ints k
  unfold SeqAt.shaped keyD
  have e1 : PyData.canLay0 (.tuple (k.map .int)) = true := h1
  have e2 : PyData.depth (.tuple (k.map .int)) = 1 := by
    show PyData.depthAll (k.map PyData.int) + 1 = 1
    rw [h2]
  rw [e1, e2]
  rfl
theorem eqv_ints : ∀ a b : List Int, PyData.eqvAll (a.map PyData.int) (b.map PyData.int) = decide (a = b)
  | [], [] => rfl
  | [], _ :: _ => by
    show false = _
    rw [decide_eq_false (by simp)]
  | _ :: _, [] => by
    show false = _
    rw [decide_eq_false (by simp)]
  | x :: a, y :: b => by
    show ((x == y) && PyData.eqvAll (a.map PyData.int) (b.map PyData.int)) = _
    rw [eqv_ints a b, Bool.eq_iff_iff]
    simp
theorem eqv_key (a b : List Int) : PyData.eqv (keyD a) (keyD b) = decide (a = b) := eqv_ints a b
theorem k_eqD {X : Cx} {K : PySem.W.Frag} (hK : X.K = K) (hu : X.A.units + 64 < cLine) : OpR X (compareOp .Eq) (rEqD K) := by subst hK; exact op_eqD hu
theorem k_neD {X : Cx} {K : PySem.W.Frag} (hK : X.K = K) (hu : X.A.units + 64 < cLine) : OpR X (compareOp .NotEq) (rNeD K) := by subst hK; exact op_neD hu
theorem ot_eqD {B : Bd} {k : Rel → Prop} {ra rb : Rel} {d e : PyData} (h1 : DpR B.K ra d) (h2 : DpR B.K rb e) (s1 : SeqAt.shaped d = true) (s2 : SeqAt.shaped e = true) (q : k (rBl (PyData.eqv d e))) : OpT B (rEqD B.K) ra rb k := fun H x y _ p1 p2 Q hQ =>
  ⟨d, e, h1 x H p1, h2 y H p2, s1, s2, hQ _ _ H q rfl (Same.refl H)⟩
theorem ot_neD {B : Bd} {k : Rel → Prop} {ra rb : Rel} {d e : PyData} (h1 : DpR B.K ra d) (h2 : DpR B.K rb e) (s1 : SeqAt.shaped d = true) (s2 : SeqAt.shaped e = true) (q : k (rBl (!PyData.eqv d e))) : OpT B (rNeD B.K) ra rb k := fun H x y _ p1 p2 Q hQ =>
  ⟨d, e, h1 x H p1, h2 y H p2, s1, s2, hQ _ _ H q rfl (Same.refl H)⟩
theorem ot_eqK {B : Bd} {k : Rel → Prop} {a b : List Int} (q : k (rBl (decide (a = b)))) : OpT B (rEqD B.K) (rKey B.K a) (rKey B.K b) k := ot_eqD (dpR_key a) (dpR_key b) (sh_key a) (sh_key b) (by rw [eqv_key]; exact q)
theorem ot_neK {B : Bd} {k : Rel → Prop} {a b : List Int} (q : k (rBl (!decide (a = b)))) : OpT B (rNeD B.K) (rKey B.K a) (rKey B.K b) k := ot_neD (dpR_key a) (dpR_key b) (sh_key a) (sh_key b) (by rw [eqv_key]; exact q)
/-- the terms of a polynomial -/
def tmD (t : List Int × Int) : PyData := .tuple [keyD t.1, .int t.2]
def tmsD (ts : PT) : PyData := .tuple (ts.map tmD)
theorem lay_tms : ∀ ts : PT, PyData.canLayAll0 (ts.map tmD) = true ∧ PyData.depthAll (ts.map tmD) ≤ 2
  | [] => ⟨rfl, Nat.zero_le _⟩
  | t :: ts => by
    obtain ⟨h1, h2⟩ := lay_tms ts
    obtain ⟨g1, g2⟩ := lay_ints t.1
    refine ⟨?_, ?_⟩
    · show ((PyData.canLayAll0 (t.1.map PyData.int) && (true && true)) && PyData.canLayAll0 (ts.map tmD)) = true
      rw [h1, g1]
      rfl
    · show max (max (PyData.depthAll (t.1.map PyData.int) + 1) (max 0 0) + 1) (PyData.depthAll (ts.map tmD)) ≤ 2
      rw [g2]
      omega
theorem sh_tms (ts : PT) : SeqAt.shaped (tmsD ts) = true := by
  obtain ⟨h1, h2⟩ := lay_tms ts
  unfold SeqAt.shaped tmsD
  have e1 : PyData.canLay0 (.tuple (ts.map tmD)) = true := h1
  rw [e1, decide_eq_true (show PyData.depth (.tuple (ts.map tmD)) ≤ 64 by show PyData.depthAll (ts.map tmD) + 1 ≤ 64; omega)]
  rfl
theorem eqv_tms : ∀ a b : PT, PyData.eqvAll (a.map tmD) (b.map tmD) = decide (a = b)
  | [], [] => rfl
  | [], _ :: _ => by
    show false = _
    rw [decide_eq_false (by simp)]
  | _ :: _, [] => by
    show false = _
    rw [decide_eq_false (by simp)]
  | x :: a, y :: b => by
    show ((PyData.eqvAll (x.1.map PyData.int) (y.1.map PyData.int) && ((x.2 == y.2) && true)) && PyData.eqvAll (a.map tmD) (b.map tmD)) = _
    rw [eqv_tms a b, eqv_ints, Bool.eq_iff_iff]
    obtain ⟨x1, x2⟩ := x
    obtain ⟨y1, y2⟩ := y
    simp
theorem dpR_tms {K : PySem.W.Frag} (ts : PT) : DpR K (rTup K (ts.map fun t => rTup K [rKey K t.1, rInt t.2])) (tmsD ts) := dpR_tup (paired_map ts fun t _ => dpR_tup (.cons (dpR_key t.1) (.cons (dpR_int t.2) .nil)))
theorem ot_eqTms {B : Bd} {k : Rel → Prop} {a b : PT} (q : k (rBl (decide (a = b)))) : OpT B (rEqD B.K) (rTup B.K (a.map fun t => rTup B.K [rKey B.K t.1, rInt t.2])) (rTup B.K (b.map fun t => rTup B.K [rKey B.K t.1, rInt t.2])) k :=
  ot_eqD (dpR_tms a) (dpR_tms b) (sh_tms a) (sh_tms b) (by show k (rBl (PyData.eqvAll (a.map tmD) (b.map tmD))); rw [eqv_tms]; exact q)
theorem ot_neTms {B : Bd} {k : Rel → Prop} {a b : PT} (q : k (rBl (!decide (a = b)))) : OpT B (rNeD B.K) (rTup B.K (a.map fun t => rTup B.K [rKey B.K t.1, rInt t.2])) (rTup B.K (b.map fun t => rTup B.K [rKey B.K t.1, rInt t.2])) k :=
  ot_neD (dpR_tms a) (dpR_tms b) (sh_tms a) (sh_tms b) (by show k (rBl (!PyData.eqvAll (a.map tmD) (b.map tmD))); rw [eqv_tms]; exact q)
/-! ### zip of tuples -/
theorem walk_zipT {K : PySem.W.Frag} {a b : Addr} {xs ys : List V} {n : Nat} (hn : n = min xs.length ys.length) : Walk (RZ.ItzT K a b) n (fun H => SqT K H a xs ∧ SqT K H b ys) (YPair (fun i => xs[i]?) (fun i => ys[i]?)) := by
  subst hn
  refine ⟨fun i H hi q => ?_, fun H q => ⟨xs, ys, q.1, q.2, by omega⟩, fun i H v H' _ q y => ?_⟩
  · have h1 : i < xs.length := by omega
    have h2 : i < ys.length := by omega
    exact ⟨xs, ys, xs[i], ys[i], q.1, q.2, by simp [h1], by simp [h2]⟩
  · obtain ⟨T, x, z, h1, h2, h3, h4, h5⟩ := y
    exact ⟨T, x, z, h1, h2, h3, h4 xs q.1, h5 ys q.2⟩
theorem wi_zipT {B : Bd} {Γ : Ctx} {ta : TA} {k : Nat → (Nat → Rel) → Prop} (h : WpA B Γ ta fun rs' => ∃ rs ss, rs' = [rTup B.K rs, rTup B.K ss] ∧ k (min rs.length ss.length) fun i => rTup B.K [rs.getD i (rC .non), ss.getD i (rC .non)]) : WpI B Γ (RZ.iZipA B.K ta) k := fun σ H E R hR =>
  h σ H E _ fun rs' vs H1 ⟨rs, ss, er, hk⟩ p e => by
    subst er
    cases p with
    | cons p t =>
      cases t with
      | cons p' t =>
        cases t
        obtain ⟨a, xs, rfl, hs, hal⟩ := p
        obtain ⟨b, ys, rfl, hs', hal'⟩ := p'
        refine ⟨a, b, xs, ys, rfl, .inr ⟨hs, hs', ?_⟩⟩
        have w : Walk (RZ.ItzT B.K a b) (min rs.length ss.length) (fun H => (SqT B.K H a xs ∧ Al H rs xs) ∧ SqT B.K H b ys ∧ Al H ss ys) (YPair (fun i => xs[i]?) (fun i => ys[i]?)) :=
          (walk_zipT (by rw [Paired.length hal, Paired.length hal'])).mono (fun _ z => ⟨z.1.1, z.2.1⟩) fun _ _ _ _ _ _ y => y
        refine hR _ _ _ _ _ H1 hk e w ⟨⟨hs, hal⟩, hs', hal'⟩ (fun H1 H2 im z => ⟨⟨sqT_im im z.1.1, z.1.2.st im⟩, sqT_im im z.2.1, z.2.2.st im⟩) fun i H1 x H2 hi z y => ?_
        obtain ⟨T, x1, x2, rfl, hT, rfl, h1, h2⟩ := y
        obtain ⟨r, hr, pr⟩ := z.1.2.get h1
        obtain ⟨r', hr', pr'⟩ := z.2.2.get h2
        refine ⟨Same.new hT, T, _, rfl, .inl (.inl upd_same), .cons ?_ (.cons ?_ .nil)⟩
        · rw [List.getD_eq_getElem?_getD, hr]
          exact r.st (Same.im (Same.new hT)) pr
        · rw [List.getD_eq_getElem?_getD, hr']
          exact r'.st (Same.im (Same.new hT)) pr'
theorem q_zipT {X : Cx} {K : PySem.W.Frag} {e e2 : Expr} {ta : TA} {p pos tpos : Pos} {elts : List Expr} {kk : Nat} (hK : X.K = K) (hg : Gl X "zip") (hm : X.mg "zip" = none) (ha : PA X [e, e2] ta)
    (hs : starEach [e, e2] X.env = (false, eval e X.env) :: starEach [e2] X.env := by rfl) (hpl : (backTo pos (starEach [e2] X.env)).any (·.1) = false := by rfl) :
    PI X (.Tuple elts kk tpos) (.Call (.Name "zip" p) [e, e2] [] pos) (RZ.iZipA K ta) := by subst hK; exact RZ.pi_zipA hg hm ha hs hpl
/-! ### an index of a tuple or a list -/
def rIxE (K : PySem.W.Frag) : R2 := fun x y H Q => rIxT K x y H Q ∨ rIxL K x y H Q
theorem k_ixE {X : Cx} {K : PySem.W.Frag} (hK : X.K = K) : IxR X (rIxE K) := by
  subst hK
  intro ve se pins s σ H x y v u Q I rx ry h hs
  rcases h with h | h
  · exact ix_tup ve se pins s σ H x y v u Q I rx ry h hs
  · exact ix_list ve se pins s σ H x y v u Q I rx ry h hs
theorem ot_ixE {B : Bd} {k : Rel → Prop} {rs : List Rel} {i : Int} {r rp : Rel} (hp : rp = rTup B.K rs ∨ rp = rLst rs) (h : atI rs i = some r) (q : k r) : OpT B (rIxE B.K) rp (rInt i) k := fun H x y e h1 h2 Q hQ => by
  rcases hp with rfl | rfl
  · exact .inl (ot_ixT h q H x y e h1 h2 Q hQ)
  · exact .inr (ot_ixL h q H x y e h1 h2 Q hQ)
end BX
set_option Elab.async false
set_option linter.all false
set_option maxRecDepth 100000
set_option maxHeartbeats 1000000
/-! BXt: // by a positive int of any size (the model asks that nothing watches _pylong). -/
namespace BX
open PySem PySem.Spec PyProof.Rows L2
def strKeysB (es : Array DictEntry) : Bool := es.toList.all fun e => match e.key with
  | .str _ _ => true
  | _ => false
theorem strKeys_ok {es : Array DictEntry} (h : strKeysB es = true) : StrKeys es := fun e he => by
  have := List.all_eq_true.mp h e (Array.mem_toList_iff.mpr he)
  cases q : e.key with
  | str n t => exact ⟨n, t, rfl⟩
  | _ => rw [q] at this; cases this
def dictB (K : PySem.W.Frag) (a : Addr) (xs : List Str) : Bool := match K.lookup a with
  | some ⟨_, _, .dict es _, _⟩ => strKeysB es && xs.all fun x => (nsFind es x).isNone
  | _ => false
theorem dictB_ok {K : PySem.W.Frag} {h : Heap} {a : Addr} {xs : List Str} (X : K.In h) (e : dictB K a xs = true) : ∃ m, h.Ns a m ∧ ∀ x, x ∈ xs → m x = none := by
  unfold dictB at e
  split at e
  · rename_i c d es n sl q
    obtain ⟨e1, e2⟩ := Bool.and_eq_true_iff.mp e
    refine ⟨fun x => nsFind es x, ⟨_, es, n, X _ _ q, rfl, strKeys_ok e1, fun _ => rfl⟩, fun x hx => ?_⟩
    exact Option.isNone_iff_eq_none.mp (List.all_eq_true.mp e2 x hx)
  · cases e
def mainB (K : PySem.W.Frag) : Bool := match PySem.W.nsIn K mainGlobals "__builtins__" with
  | some (some (.ref bm)) => (match K.lookup bm with
    | some ob => decide (ob.cls = .type "module") && decide (ob.dict = some builtinsNs)
    | none => false)
  | _ => false
def seerB (K : PySem.W.Frag) : Bool := dictB K cStatics ["sys.audit-hooks", "sys.dict"] && (dictB K sysModules ["_pylong"] && mainB K)
theorem seer_of {K : PySem.W.Frag} {h : Heap} {mg mb : Str → Option Value} (X : K.In h) (G : h.Ns mainGlobals mg) (B : h.Ns builtinsNs mb) (hb : ∀ x : Str, x ≠ "__name__" → mb x = bootBuiltins x) (e : seerB K = true) : h.NoSeer := by
  obtain ⟨e1, e⟩ := Bool.and_eq_true_iff.mp e
  obtain ⟨e2, e3⟩ := Bool.and_eq_true_iff.mp e
  obtain ⟨mc, nc, c0⟩ := dictB_ok X e1
  obtain ⟨mm, nm, m0⟩ := dictB_ok X e2
  refine ⟨⟨mc, nc, c0 _ (by simp), c0 _ (by simp)⟩, ⟨mm, nm, m0 _ (by simp)⟩, ⟨mb, B, hb⟩, ?_⟩
  unfold mainB at e3
  split at e3
  · rename_i bm q
    split at e3
    · rename_i ob q2
      obtain ⟨h1, h2⟩ := Bool.and_eq_true_iff.mp e3
      exact ⟨mg, bm, ob, G, PySem.W.mg_of X G q, X _ _ q2, of_decide_eq_true h1, of_decide_eq_true h2⟩
    · cases e3
  · cases e3
/-- what // by a great int asks of the context -/
structure SeerX (X : Cx) : Prop where
  tree : X.prog.given.tree = none
  k : seerB X.K = true
  gen : X.env.scope.isGenerator = false
  co : X.env.scope.isCoroutine = false
  stk : X.stack = X.env :: X.outer
  dp : X.A.depth + 100 < recursionLimit
theorem op_fdivP {X : Cx} (S : SeerX X) : OpR X (binaryOp .FloorDiv) (rI (fun _ j => 0 < j) fun i j => .int (i / j)) := by
  intro pins s σ H x y v u Q I rx ry h
  obtain ⟨i, j, rfl, rfl, hc, q⟩ := h
  obtain ⟨t, rfl⟩ := rx
  obtain ⟨t', rfl⟩ := ry
  have ok := I.ok
  obtain ⟨mb, B, hb⟩ := ok.mod.blt
  have sr : s.heap.NoSeer := (seer_of ok.mod.kin ok.mod.glob B hb S.k).keeps I.bk
  have fr : X.A.frames = some (X.env :: X.outer) := by rw [ok.frames, S.stk]
  have hpos : (0 : Int) < j := hc
  refine floordiv_int (by omega) ⟨.int _, H, I.tok _, ⟨_, rfl⟩, by rw [Int.fdiv_eq_ediv_of_nonneg i (by omega)]; exact q⟩ (.inr (PySem.PylongRoom.of I.nolimit S.dp (PySem.SeerAt.of sr S.tree fr S.gen S.co ok.blt ok.glob)))
theorem dp_of {k : Nat} {A : Around} (r : Room k A) (h : 32 ≤ k) : A.depth + 100 < recursionLimit := by have := r.dp; omega
end BX
namespace BX
open PySem PySem.Spec PyProof.Rows L2
/-! ### tuple * 1 -/
theorem tuple_mul1 (l : Addr) (items : Array Value) (n : Nat) (dd : Option Addr) (sl : Array (Option Value)) (u : Tok) :
    Meets (Builtin.«tuple.__mul__» ⟨[.ref l, .int 1 u], []⟩) (fun _ R s => s.heap.get? l = some { cls := .type "tuple", dict := dd, data := .seq items n, slots := sl } ∧
      R (.ok (.ret (Value.ref l))) s) :=
  .of_wp fun prog w A R s h => by
    obtain ⟨hp, g, d, tk, os⟩ := s
    obtain ⟨hl, h⟩ := h
    have f1 := AutoSeq1.idx_int
    wp_walk using wpAny_loadPart' hl
    exact ⟨_, rfl, h⟩
def rRep1 (K : PySem.W.Frag) : R2 := fun x y H Q => ∃ l xs, x = .ref l ∧ y = .int 1 ∧ SqT K H l xs ∧ Q (.ref l) H
theorem op_rep1 {X : Cx} : OpR X (binaryOp .Mult) (rRep1 X.K) := by
  intro pins s σ H x y v u Q I rx ry h
  obtain ⟨l, xs, rfl, rfl, hT, q⟩ := h
  cases rx
  obtain ⟨t, rfl⟩ := ry
  obtain ⟨its, r, ⟨⟨cls, dd, data, sl⟩, ho, hc, n, hd⟩, hs⟩ := I.tuple hT
  simp only at hc hd
  subst hc hd
  refine wpAny_binaryOp_repeat_ref (T := "tuple") (U := "int") (by decide) ⟨_, ho, rfl⟩ (fun s' => typeIs_int s' 1 t) noFill_tuple_mul F.fills_int_mul F.slot_int_rmul repeat_tuple F.slot_int_index.lookup
    (call_meets F.slot_int_rmul (typeIs_int s 1 t) F.entry_int_rmul (F.args_int_rmul_2 _ _) (int_rmul_tuple 1 t l its.toArray n dd sl)
      ⟨ho, rfl, ⟨_, ho, rfl⟩, call_meets F.slot_tuple_mul ⟨_, ho, rfl⟩ F.entry_tuple_mul (F.args_tuple_mul_2 _ _) (tuple_mul1 l its.toArray n dd sl t) ⟨ho, ?_⟩⟩)
  exact ⟨.ref l, _, I, rfl, q⟩
theorem k_rep1 {X : Cx} {K : PySem.W.Frag} (hK : X.K = K) : OpR X (binaryOp .Mult) (rRep1 K) := by subst hK; exact op_rep1
theorem ot_rep1 {B : Bd} {k : Rel → Prop} {rs : List Rel} (q : k (rTup B.K rs)) : OpT B (rRep1 B.K) (rTup B.K rs) (rInt 1) k := fun H x y _ ⟨a, xs, ex, hs, hal⟩ h2 Q hQ => by
  subst ex
  cases h2
  exact ⟨a, xs, rfl, rfl, hs, hQ _ _ H q ⟨a, xs, rfl, hs, hal⟩ (Same.refl H)⟩
end BX
namespace BX
open PySem PySem.Spec PyProof.Rows L2
/-! ### an __init__ that sets three attributes to what slots hold -/
theorem ndx_ins {C' : Addr} {fs' : List (Str × Rel)} (h0 : fs' ≠ []) (h : ∀ p ∈ fs', Ndx p.2) : Ndx (rIns C' fs') := fun v H x C dx o p hx => by
  obtain ⟨a, dx', xs, e, ha, hp⟩ := p
  have hne : a ≠ x := fun z => by
    rw [z, hx] at ha
    cases ha
    cases hp
    exact h0 rfl
  refine ⟨a, dx', xs, e, by rw [upd_ne hne]; exact ha, ?_⟩
  clear e ha hne h0
  induction hp with
  | nil => exact .nil
  | cons h1 t ih => exact .cons ⟨h1.1, h _ (List.mem_cons_self ..) _ _ _ _ _ _ h1.2 hx⟩ (ih fun r hr => h r (List.mem_cons_of_mem _ hr))
theorem ws_fld3 {B : Bd} {Γ : Ctx} {D : Ends} {x C dx : Addr} {f1 f2 f3 : Str} {r1 r2 r3 : Rel} {i a b c : Nat} (hi : Γ[i]? = some (.im (rC (.ref x)))) (h1 : Γ[a]? = some (.im r1)) (h2 : Γ[b]? = some (.im r2)) (h3 : Γ[c]? = some (.im r3))
    (hD : FinK B x C dx [(f1, r1), (f2, r2), (f3, r3)] D) (hB : ∀ H, B.fx H → H x = some (.ins C dx [])) (cl : Cls B.K C) (na1 : NoAttr B.K C f1) (na2 : NoAttr B.K C f2) (na3 : NoAttr B.K C f3)
    (n1 : Ndx r1) (n2 : Ndx r2) (n3 : Ndx r3) (hp : ∀ y1 y2 y3 : V, putF f3 y3 (putF f2 y2 (putF f1 y1 [])) = [(f1, y1), (f2, y2), (f3, y3)]) (hl1 : ∀ y1 : V, (putF f1 y1 []).length < 1000) (hl2 : ∀ y1 y2 : V, (putF f2 y2 (putF f1 y1 [])).length < 1000) :
    WpS B D Γ (tSeq (sFld B.K (tVar i) (tVar a) f1) (tSeq (sFld B.K (tVar i) (tVar b) f2) (tSeq (sFld B.K (tVar i) (tVar c) f3) tNext))) := fun σ H E => by
  obtain ⟨v, hv, ev⟩ := E.im_at hi
  cases ev
  obtain ⟨y1, g1, p1⟩ := E.im_at h1
  obtain ⟨y2, g2, p2⟩ := E.im_at h2
  obtain ⟨y3, g3, p3⟩ := E.im_at h3
  have hx := hB H E.fx
  refine ⟨_, g1, _, hv, x, C, dx, [], rfl, hx, cl, na1, by decide, ?_⟩
  refine ⟨_, g2, _, hv, x, C, dx, _, rfl, upd_same, cl, na2, hl1 y1, ?_⟩
  refine ⟨_, g3, _, hv, x, C, dx, _, rfl, upd_same, cl, na3, hl2 y1 y2, ?_⟩
  rw [upd_upd, upd_upd, hp]
  exact hD σ H _ E.ex hx (.cons ⟨rfl, n1 _ _ _ _ _ _ p1 hx⟩ (.cons ⟨rfl, n2 _ _ _ _ _ _ p2 hx⟩ (.cons ⟨rfl, n3 _ _ _ _ _ _ p3 hx⟩ .nil)))
end BX
set_option Elab.async false
set_option linter.all false
set_option maxRecDepth 100000
set_option maxHeartbeats 1000000
/-! BXu: == of dicts and of instances, told either way; == of lists that hold dicts; a list's items exchanged. -/
namespace BX
open PySem PySem.Spec PyProof.Rows L2
section
variable {prog : Program} {w : World} {K : Type} [DecidableEq K] {knd : HeapKind prog w K} {A : Around} {E : Value → Shared → Prop} {s : Shared}
/-- two dicts, each entry of the first one found alike in the second, or not -/
theorem same_pairsB {nm : String} {a b : Addr} {xs ys : List (K × Addr × Value)} {Q : Bool → Shared → Prop} {ans : K × Addr × Value → Bool} (hu : knd.room A) (ha : (a == sysModules) = false) (hb : (b == sysModules) = false)
    (da : s.heap.DictOfH knd a xs) (db : s.heap.DictOfH knd b ys) (hl : xs.length = ys.length)
    (hits : ∀ (i : Nat) k p v, xs[i]? = some (k, p, v) → ((∀ (j : Nat) (q : Addr × Value), ys[j]? ≠ some (k, q)) → ans (k, p, v) = false) ∧ ∀ (j : Nat) (q : Addr × Value), ys[j]? = some (k, q) → PySem.SeqAt.EqP prog w A s v q.2 (ans (k, p, v))) (h : Q (xs.all ans) s) :
    wpAny (model prog w) A (Builtin.Dict.samePairs nm a b) Q E s := by
  obtain ⟨oa, es, ep, hoa, _, hda, hea, hia, hna⟩ := da
  obtain ⟨ob, es', ep', hob, _, hdb, heb, hib, hnb⟩ := db
  have hla : es.size = xs.length := size_of_entries hea
  have hlb : es'.size = ys.length := size_of_entries heb
  have hsz : es.size = es'.size := by omega
  unfold Builtin.Dict.samePairs Builtin.Dict.showsAll
  rw [if_neg (show ¬ (a == sysModules) = true by rw [ha]; exact Bool.false_ne_true), if_neg (show ¬ (b == sysModules) = true by rw [hb]; exact Bool.false_ne_true)]
  refine wpAny_bind (wpAny_pure (wpAny_bind (wpAny_pure ?_)))
  refine wpAny_bind (wpAny_dictEntries hoa hda ?_)
  dsimp only
  refine wpAny_bind (wpAny_dictEntries hob hdb ?_)
  rw [if_neg (by rw [hsz]; simp)]
  refine wpAny_bind (wpAny_dictEpoch hoa hda ?_)
  refine wpAny_bind ?_
  rw [Std.Legacy.Range.forIn_eq_forIn_range']
  simp only [Std.Legacy.Range.size, Nat.sub_zero, Nat.add_sub_cancel, Nat.div_one]
  refine wpAny_forIn_list _ (fun rest q s' => s' = s ∧ q = (none, ()) ∧ ∃ i, rest = List.range' i (es.size - i) ∧ i ≤ es.size ∧ (xs.take i).all ans = true) _ ?_ ?_ _ _ ⟨rfl, rfl, 0, by simp, Nat.zero_le _, rfl⟩
  · rintro x rest q s' ⟨rfl, rfl, i, hr, hi, hall⟩
    have hlt : i < es.size := by
      rcases Nat.lt_or_ge i es.size with h | h
      · exact h
      · rw [Nat.sub_eq_zero_of_le h] at hr; simp at hr
    obtain ⟨rfl, hrest⟩ : x = i ∧ rest = List.range' (i + 1) (es.size - (i + 1)) := by
      have e : es.size - i = (es.size - (i + 1)) + 1 := by omega
      rw [e, List.range'_succ] at hr
      injection hr with h1 h2
      exact ⟨h1, h2⟩
    refine wpAny_bind (wpAny_dictEntries hoa hda ?_)
    have hx' : x < xs.length := by omega
    obtain ⟨⟨k, p, v⟩, hx⟩ : ∃ z, xs[x]? = some z := ⟨xs[x], List.getElem?_eq_getElem hx'⟩
    have he1 : es[x]? = some (entryOfKey knd (k, p, v)) := by rw [entry_at hea x, hx]; rfl
    rw [he1]
    obtain ⟨h0, hq⟩ := hits x k p v hx
    have hxe : xs[x] = (k, p, v) := by rw [List.getElem?_eq_getElem hx'] at hx; exact Option.some.inj hx
    have ht : (xs.take (x + 1)).all ans = ans (k, p, v) := by
      rw [take_succ_at hx', List.all_append, hall, Bool.true_and, hxe]
      show (ans (k, p, v) && true) = _
      rw [Bool.and_true]
    have hf : ans (k, p, v) = false → xs.all ans = false := fun z => by
      rw [← List.take_append_drop (x + 1) xs, List.all_append, ht, z, Bool.false_and]
    show wpAny _ _ (holding [Value.ref p, v] _ >>= _) _ _ _
    refine wpAny_bind (wpAny_holding (wpAny_bind (wpAny_dictFind_heap hu (hia _ (List.mem_of_getElem? hx)) hob hdb heb hib hnb (fun hn => ?_) fun j q hj => ?_)))
    · refine wpAny_pure ?_
      rw [if_pos (by decide)]
      refine wpAny_pure ?_
      show wpAny _ _ (pure false) Q E _
      refine wpAny_pure ?_
      rw [hf (h0 hn)] at h
      exact h
    · have he2 : es'[j]? = some (entryOfKey knd (k, q)) := by rw [entry_at heb j, hj]; rfl
      refine wpAny_bind (wpAny_dictEntries hob hdb ?_)
      rw [he2]
      refine wpAny_holding ((hq j q hj) _ _ ?_)
      cases hans : ans (k, p, v) with
      | true =>
        show wpAny _ _ (if (!true) = true then _ else _) _ _ _
        rw [if_neg (by decide)]
        refine wpAny_bind (wpAny_dictEpoch hoa hda ?_)
        rw [if_neg (by simp)]
        exact wpAny_pure ⟨rfl, rfl, x + 1, hrest, hlt, by rw [ht, hans]⟩
      | false =>
        show wpAny _ _ (if (!false) = true then _ else _) _ _ _
        rw [if_pos (by decide)]
        refine wpAny_pure ?_
        show wpAny _ _ (pure false) Q E _
        refine wpAny_pure ?_
        rw [hf hans] at h
        exact h
  · rintro q s' ⟨rfl, rfl, i, hr, hi, hall⟩
    have hz : i = es.size := by
      rcases Nat.lt_or_ge i es.size with h | h
      · have e : es.size - i = (es.size - (i + 1)) + 1 := by omega
        rw [e, List.range'_succ] at hr
        cases hr
      · omega
    rw [show xs.take i = xs by rw [hz, hla, List.take_length]] at hall
    rw [hall] at h
    exact wpAny_pure h
theorem rc_dictB {a b : Addr} {xs ys : List (K × Addr × Value)} {Q : Value → Shared → Prop} {r : Bool} (hr : knd.room A.in1) (ha : (a == sysModules) = false) (hb : (b == sysModules) = false)
    (da : s.heap.DictOfH knd a xs) (db : s.heap.DictOfH knd b ys) (hu : A.units < cLine) (hs : ∀ (nm : String) (Q : Bool → Shared → Prop), Q r s → wpAny (model prog w) A.in1 (Builtin.Dict.samePairs nm a b) Q E s) (h : Q (.bool r) s) :
    wpAny (model prog w) A (richCompare .Eq (.ref a) (.ref b)) Q E s := by
  refine wpAny_richCompare_same_room (op := .Eq) da.typeIs db.typeIs PySem.F.slot_dict_eq (wpAny_call_entry PySem.F.slot_dict_eq da.typeIs PySem.F.entry_dict_eq ?_ (PySem.F.args_dict_eq_2 _ _)) hu
  show wpAny _ _ (Builtin.Dict.dictSlotArgs "__eq__" ⟨[.ref a, .ref b], []⟩ >>= _) _ _ s
  refine wpAny_bind ?_
  unfold Builtin.Dict.dictSlotArgs
  refine wpAny_bind (wpAny_notOrdered_dict da.typeIs ?_)
  show wpAny _ _ (pure (Value.ref a, Value.ref b)) _ _ s
  refine wpAny_pure ?_
  refine wpAny_bind (wpAny_isInstance (T := "dict") db.typeIs PySem.F.sub_dict_dict ?_)
  simp only [Bool.not_true, Bool.false_eq_true, if_false]
  refine wpAny_bind (wpAny_pure (wpAny_bind (wpAny_pure ?_)))
  refine wpAny_bind (hs _ _ ?_)
  refine wpAny_pure ⟨_, rfl, ?_, ?_⟩
  · exact fun x => nomatch x
  · simpa using h
end
/-! sizes differ -/
section
variable {prog : Program} {w : World} {K : Type} [DecidableEq K] {knd : HeapKind prog w K} {A : Around} {E : Value → Shared → Prop} {s : Shared}
theorem same_pairsN {nm : String} {a b : Addr} {xs ys : List (K × Addr × Value)} {Q : Bool → Shared → Prop} (ha : (a == sysModules) = false) (hb : (b == sysModules) = false)
    (da : s.heap.DictOfH knd a xs) (db : s.heap.DictOfH knd b ys) (hl : xs.length ≠ ys.length) (h : Q false s) :
    wpAny (model prog w) A (Builtin.Dict.samePairs nm a b) Q E s := by
  obtain ⟨oa, es, ep, hoa, _, hda, hea, hia, hna⟩ := da
  obtain ⟨ob, es', ep', hob, _, hdb, heb, hib, hnb⟩ := db
  have hla : es.size = xs.length := size_of_entries hea
  have hlb : es'.size = ys.length := size_of_entries heb
  unfold Builtin.Dict.samePairs Builtin.Dict.showsAll
  rw [if_neg (show ¬ (a == sysModules) = true by rw [ha]; exact Bool.false_ne_true), if_neg (show ¬ (b == sysModules) = true by rw [hb]; exact Bool.false_ne_true)]
  refine wpAny_bind (wpAny_pure (wpAny_bind (wpAny_pure ?_)))
  refine wpAny_bind (wpAny_dictEntries hoa hda ?_)
  dsimp only
  refine wpAny_bind (wpAny_dictEntries hob hdb ?_)
  rw [if_pos (by simp; omega)]
  exact wpAny_bind (wpAny_rule (wpAny_pure h))
end
/-! == of two tables -/
/-- the answer at an entry: found with the same int -/
def rXEqB (P : Program) (w : World) (K : PySem.W.Frag) : R2 := fun x y H Q => ∃ a b es fs, x = .ref a ∧ y = .ref b ∧ Rd H a (DXO P w a es) ∧ Rd H b (DXO P w b fs) ∧ KeysAt K H es ∧ KeysAt K H fs ∧
  (∀ e ∈ es, ∃ i, e.2.2 = .int i) ∧ (∀ e ∈ fs, ∃ i, e.2.2 = .int i) ∧ Q (.bl (decide (es.length = fs.length) && es.all fun e => decide ((getM fs e.1).map (·.2) = some e.2.2))) H
def ansX (fs : List DEnt) : List Key × Addr × Value → Bool := fun x => match x.2.2 with
  | .int i _ => decide ((getM fs x.1).map (·.2) = some (.int i))
  | _ => false
theorem rc_xeqB {X : Cx} {A : Around} (hu : A.units + 64 < cLine) {pins : List (Addr × Obj)} {s : Shared} {σ : L2.St} {H : Hp} {a b : Addr} {es fs : List DEnt} {E : Value → Shared → Prop} {Q : Value → Shared → Prop} (I : Inv X pins σ H s)
    (ga : Rd H a (DXO X.prog X.w a es)) (gb : Rd H b (DXO X.prog X.w b fs)) (ka : KeysAt X.K H es) (kb : KeysAt X.K H fs) (ie : ∀ e ∈ es, ∃ i, e.2.2 = .int i) (jf : ∀ e ∈ fs, ∃ i, e.2.2 = .int i)
    (q : Q (.bool (decide (es.length = fs.length) && es.all fun e => decide ((getM fs e.1).map (·.2) = some e.2.2))) s) : wpAny (model X.prog X.w) A (richCompare .Eq (.ref a) (.ref b)) Q E s := by
  obtain ⟨z, hd, xs, rel, dd⟩ := dx_rd I.hok I.kIn ga ka
  obtain ⟨z', hd', ys, rel', dd'⟩ := dx_rd I.hok I.kIn gb kb
  have nd : (ys.map (·.1)).Nodup := let ⟨_, _, _, _, _, _, _, _, n⟩ := dd'; n
  have l1 : es.length = xs.length := Paired.length rel
  have l2 : fs.length = ys.length := Paired.length rel'
  by_cases hl : es.length = fs.length
  · rw [decide_eq_true hl, Bool.true_and] at q
    -- an entry's answer, by the entry of es
    have at_es : ∀ (i : Nat) k p v, xs[i]? = some (k, p, v) → ∃ e, es[i]? = some e ∧ e.1 = k ∧ e.2.1 = p ∧ RelV e.2.2 v := fun i k p v hx => by
      have hlt : i < es.length := by rw [l1]; exact (List.getElem?_eq_some_iff.mp hx).1
      obtain ⟨b', hb', q1, q2, q3⟩ := pget2 rel (List.getElem?_eq_getElem hlt)
      rw [hx] at hb'
      cases hb'
      exact ⟨_, List.getElem?_eq_getElem hlt, q1, q2, q3⟩
    have val : ∀ k, RelO ((getM fs k).map (·.2)) ((atKey ys k).map (·.2)) := fun k => rel'.val k
    have hans : xs.all (ansX fs) = es.all fun e => decide ((getM fs e.1).map (·.2) = some e.2.2) := by
      clear at_es val nd l1 hl dd dd' q rel' z ga ka
      induction rel with
      | nil => rfl
      | @cons e x es xs h t ih =>
        rw [List.all_cons, List.all_cons, ih fun e he => ie e (List.mem_cons_of_mem _ he)]
        congr 1
        obtain ⟨i, ei⟩ := ie e (List.mem_cons_self ..)
        obtain ⟨h1, h2, h3⟩ := h
        rw [ei] at h3
        obtain ⟨t, ev⟩ := (show ∃ t, x.2.2 = Value.int i t from h3)
        unfold ansX
        rw [ev, ← h1, ei]
    rw [← hans] at q
    refine rc_dictB (tupleKind_room_in1 (A := A) (by omega)) hd hd' dd dd' (by omega) (fun nm Q h => same_pairsB (ans := ansX fs) (tupleKind_room_in1 (A := A) (by omega)) hd hd' dd dd' (by omega) (fun i k p v hx => ?_) h) q
    obtain ⟨e, he, h1, h2, h3⟩ := at_es i k p v hx
    obtain ⟨n, en⟩ := ie e (List.mem_of_getElem? he)
    rw [en] at h3
    obtain ⟨t, rfl⟩ := (show ∃ t, v = Value.int n t from h3)
    refine ⟨fun hn => ?_, fun j q hj => ?_⟩
    · have ha0 : atKey ys k = none := by
        cases hk : atKey ys k with
        | none => rfl
        | some q0 => obtain ⟨j, hj⟩ := at_some hk; exact absurd hj (hn j q0)
      have := val k
      rw [ha0] at this
      show decide _ = false
      cases hg : (getM fs k).map (·.2) with
      | none => rw [decide_eq_false (fun z => by cases z)]
      | some u => rw [hg] at this; exact absurd this (by simp [RelO])
    · have ha1 := at_nodup nd hj
      have := val k
      rw [ha1] at this
      show PySem.SeqAt.EqP _ _ _ _ _ _ (decide _)
      cases hg : (getM fs k).map (·.2) with
      | none => rw [hg] at this; exact absurd this (by simp [RelO])
      | some u =>
        rw [hg] at this
        have ru : L2.RelV u q.2 := this
        obtain ⟨g, hg1, hg2⟩ := Option.map_eq_some_iff.mp hg
        have hgm : ∃ m, u = .int m := by
          rw [← hg2]
          have hmem : ∃ e ∈ fs, e.2 = g := by
            unfold getM at hg1
            obtain ⟨e, he, e1⟩ := Option.map_eq_some_iff.mp hg1
            exact ⟨e, List.mem_of_find?_eq_some he, e1⟩
          obtain ⟨e, he, e1⟩ := hmem
          obtain ⟨i, ei⟩ := jf e he
          exact ⟨i, by rw [← e1]; exact ei⟩
        obtain ⟨m, rfl⟩ := hgm
        obtain ⟨t', eq⟩ := (show ∃ t, q.2 = Value.int m t from ru)
        rw [eq]
        have er : (n == m) = decide (some (V.int m) = some (V.int n)) := by
          rw [Bool.eq_iff_iff, beq_iff_eq, decide_eq_true_iff]
          constructor
          · intro h; rw [h]
          · intro h; injection h with h; injection h with h; exact h.symm
        rw [← er]
        exact PySem.SeqAt.EqAt.eqP (PySem.SeqAt.EqAt.int_int n t m t')
  · rw [decide_eq_false hl, Bool.false_and] at q
    exact rc_dictB (tupleKind_room_in1 (A := A) (by omega)) hd hd' dd dd' (by omega) (fun nm Q h => same_pairsN hd hd' dd dd' (by omega) h) q
theorem op_xeqB {X : Cx} (hu : X.A.units + 64 < cLine) : OpR X (compareOp .Eq) (rXEqB X.prog X.w X.K) := by
  intro pins s σ H x y v u Q I rx ry ⟨a, b, es, fs, ex, ey, ga, gb, ka, kb, ie, jf, q⟩
  subst ex ey
  obtain rfl : v = Value.ref a := rx
  obtain rfl : u = Value.ref b := ry
  show wpAny (model X.prog X.w) X.A (richCompare .Eq (.ref a) (.ref b)) _ _ _
  exact rc_xeqB hu I ga gb ka kb ie jf ⟨.bl _, H, I, rfl, q⟩
theorem k_xeqB {X : Cx} {P : Program} {w : World} {K : PySem.W.Frag} (hP : X.prog = P) (hw : X.w = w) (hK : X.K = K) (hu : X.A.units + 64 < cLine) : OpR X (compareOp .Eq) (rXEqB P w K) := by subst hP hw hK; exact op_xeqB hu
/-- the entries of two tables, one found in the other -/
def eqTb (A B : PT) : Bool := decide (A.length = B.length) && A.all fun e => decide (getM B e.1 = some e.2)
theorem alx_get {K : PySem.W.Frag} {H : Hp} {m : PT} {es : List DEnt} (h : AlX K H (mI m) es) (k : List Int) : (getM es (ik k)).map (·.2) = (getM m k).map V.int := by
  have v := h.val k
  rw [show getM (mI m) k = (getM m k).map rInt from getM_map rInt m k] at v
  cases hm : getM m k with
  | none =>
    rw [hm] at v
    cases he : getM es (ik k) with
    | none => rfl
    | some g => rw [he] at v; exact absurd v (by simp)
  | some c =>
    rw [hm] at v
    cases he : getM es (ik k) with
    | none => rw [he] at v; exact absurd v (by simp)
    | some g =>
      rw [he] at v
      rcases v with ⟨v1, _⟩ | ⟨r, b, z, v1, v2, v3⟩
      · cases v1
      · cases v1
        cases v2
        cases v3
        rfl
theorem alx_ints {K : PySem.W.Frag} {H : Hp} {m : PT} {es : List DEnt} (h : AlX K H (mI m) es) : (∀ e ∈ es, ∃ i, e.2.2 = .int i) ∧ (es.all fun e => decide ((getM es e.1).isSome)) = es.all (fun e => decide ((getM es e.1).isSome)) := by
  refine ⟨fun e he => ?_, rfl⟩
  obtain ⟨j, hj⟩ := List.mem_iff_getElem?.mp he
  have hlt : j < (mI m).length := by rw [← h.length]; exact (List.getElem?_eq_some_iff.mp hj).1
  obtain ⟨b', hb', q1, q2, q3⟩ := pget2 h (List.getElem?_eq_getElem hlt)
  rw [hj] at hb'
  cases hb'
  rw [List.getElem_map] at q3
  exact ⟨_, q3⟩
theorem alx_all {K : PySem.W.Frag} {H : Hp} {A B : PT} {es fs : List DEnt} (h : AlX K H (mI A) es) (g : AlX K H (mI B) fs) : (es.all fun e => decide ((getM fs e.1).map (·.2) = some e.2.2)) = A.all fun e => decide (getM B e.1 = some e.2) := by
  have gen : ∀ (A : PT) (es : List DEnt), AlX K H (mI A) es → (es.all fun e => decide ((getM fs e.1).map (·.2) = some e.2.2)) = A.all fun e => decide (getM B e.1 = some e.2) := by
    intro A
    induction A with
    | nil => intro es h; cases h; rfl
    | cons a A ih =>
      intro es h
      cases h with
      | @cons _ e _ es h t =>
        rw [List.all_cons, List.all_cons, ih es t]
        congr 1
        obtain ⟨h1, h2, h3⟩ := h
        have h3' : e.2.2 = .int a.2 := h3
        rw [h3', ← h1, alx_get g, decide_eq_decide]
        show (getM B a.1).map V.int = some (V.int a.2) ↔ _
        cases getM B a.1 with
        | none => simp
        | some c =>
          constructor
          · intro h
            injection h with h
            injection h with h
            rw [h]
          · intro h
            injection h with h
            rw [h]
            rfl
  exact gen A es h
theorem rdct_b {X : Cx} {A : Around} (hu : A.units + 64 < cLine) {pins : List (Addr × Obj)} {s : Shared} {σ : L2.St} {H : Hp} {S T : PT} {x y : V} {u v : Value} {E : Value → Shared → Prop} {Q : Value → Shared → Prop} (I : Inv X pins σ H s) (rx : L2.RelV x u) (ry : L2.RelV y v)
    (hx : (rDct X.prog X.w X.K (mI S)).p x H) (hy : (rDct X.prog X.w X.K (mI T)).p y H) (q : Q (.bool (eqTb S T)) s) : (∃ a b, u = .ref a ∧ v = .ref b) ∧ wpAny (model X.prog X.w) A (richCompare .Eq u v) Q E s := by
  obtain ⟨a, o, es, rfl, ha, hal⟩ := hx
  obtain ⟨b, o', fs, rfl, hb, hal'⟩ := hy
  obtain rfl : u = Value.ref a := rx
  obtain rfl : v = Value.ref b := ry
  refine ⟨⟨a, b, rfl, rfl⟩, rc_xeqB hu I (.inr ⟨o, ha⟩) (.inr ⟨o', hb⟩) hal.keys hal'.keys (alx_ints hal).1 (alx_ints hal').1 ?_⟩
  have e1 : es.length = S.length := by rw [hal.length, List.length_map]
  have e2 : fs.length = T.length := by rw [hal'.length, List.length_map]
  rw [alx_all hal hal', e1, e2]
  exact q
theorem ot_xeqB {B : Bd} {k : Rel → Prop} {S T : PT} (q : k (rBl (eqTb S T))) : OpT B (rXEqB B.P B.w B.K) (rDct B.P B.w B.K (mI S)) (rDct B.P B.w B.K (mI T)) k := fun H x y _ ⟨a, o, es, ex, ha, hal⟩ ⟨b, o', fs, ey, hb, hal'⟩ Q hQ => by
  subst ex ey
  refine ⟨a, b, es, fs, rfl, rfl, .inr ⟨o, ha⟩, .inr ⟨o', hb⟩, hal.keys, hal'.keys, (alx_ints hal).1, (alx_ints hal').1, ?_⟩
  have e1 : es.length = S.length := by rw [hal.length, List.length_map]
  have e2 : fs.length = T.length := by rw [hal'.length, List.length_map]
  rw [alx_all hal hal', e1, e2]
  exact hQ _ _ H q rfl (Same.refl H)
end BX
namespace BX
open PySem PySem.Spec PyProof.Rows L2 PySem.SeqAt
open AutoSeq1 (wpAny_loadPart')
open MeetsSeq MeetsSeq2 MeetsSeq3 SeqRoads2
/-! ### != of two lists whose items are equal, one by one -/
theorem ne_loopP {prog : Program} {w : World} (l b : Addr) (us vs : Array Value) (n n2 : Nat) (dd dd2 : Option Addr) (sl sl2 : Array (Option Value)) (hsz : us.size = vs.size) (k : Nat) :
    ∀ i : Nat, us.size - i = k → MeetsIn prog w (Builtin.«list.__eq__.loop» ⟨[.ref l, .ref b, rawInt i, rawInt 3], []⟩)
      (fun A R s => s.heap.get? l = some { cls := .type "list", dict := dd, data := .seq us n, slots := sl } ∧ s.heap.get? b = some { cls := .type "list", dict := dd2, data := .seq vs n2, slots := sl2 } ∧
        (∀ j (h1 : j < us.size) (h2 : j < vs.size), EqP prog w A.in1 s us[j] vs[j] true) ∧ R (.ok (.ret (.bool false))) s) := by
  induction k with
  | zero =>
    intro i hk A R s ⟨hl, hb, he, h⟩
    obtain ⟨hp, g, d, tk, os⟩ := s
    wp_walk using wpAny_loadPart' hl, wpAny_loadPart' hb
    rw [show us[((i : Nat) : Int).toNat]? = none by simp; omega, show vs[((i : Nat) : Int).toNat]? = none by simp; omega]
    wp_walk using wpAny_loadPart' hl, wpAny_loadPart' hb
    show R (.ok (.ret (.bool (us.size != vs.size)))) _
    rw [hsz]
    simpa using h
  | succ k ih =>
    intro i hk A R s ⟨hl, hb, he, h⟩
    obtain ⟨hp, g, d, tk, os⟩ := s
    wp_walk using wpAny_loadPart' hl, wpAny_loadPart' hb
    have q1 : i < us.size := by omega
    have q2 : i < vs.size := by omega
    rw [show us[((i : Nat) : Int).toNat]? = some us[i] by simp [q1], show vs[((i : Nat) : Int).toNat]? = some vs[i] by simp [q2]]
    refine wpAny_bind (he i q1 q2 _ _ ?_)
    wp_walk
    rw [show ((i : Int) + 1) = ((i + 1 : Nat) : Int) by push_cast; rfl]
    exact ⟨plainId_quiet plain_eq_loop _, codeAny_builtin entry_eq_loop (by
      rw [Around.under_plainId plain_eq_loop _]
      exact ih (i + 1) (by omega) A R _ ⟨hl, hb, he, h⟩)⟩
theorem rc_neP {prog : Program} {w : World} {A : Around} {s : Shared} {l b : Addr} {us vs : Array Value} (hl : s.heap.IsList l us) (hb : s.heap.IsList b vs) (hsz : us.size = vs.size) (hu : A.units < cLine)
    (he : ∀ j (h1 : j < us.size) (h2 : j < vs.size), EqP prog w A.in1 s us[j] vs[j] true) (E Q : Value → Shared → Prop) (h : Q (.bool false) s) : wpAny (model prog w) A (richCompare .NotEq (.ref l) (.ref b)) Q E s := by
  obtain ⟨⟨cls, dd, data, sl⟩, ho, hc, n, hd⟩ := id hl
  obtain ⟨⟨cls2, dd2, data2, sl2⟩, ho2, hc2, n2, hd2⟩ := id hb
  simp only at hc hd hc2 hd2
  subst hc hd hc2 hd2
  have ta : s.TypeIs (.ref l) "list" := ⟨_, ho, rfl⟩
  have tb : s.TypeIs (.ref b) "list" := ⟨_, ho2, rfl⟩
  have ne : MeetsIn prog w (Builtin.«list.__ne__» ⟨[.ref l, .ref b], []⟩) (fun A R s => s.heap.get? l = some { cls := .type "list", dict := dd, data := .seq us n, slots := sl } ∧ s.heap.get? b = some { cls := .type "list", dict := dd2, data := .seq vs n2, slots := sl2 } ∧
      (∀ j (h1 : j < us.size) (h2 : j < vs.size), EqP prog w A.in1 s us[j] vs[j] true) ∧ R (.ok (.ret (.bool false))) s) := by
    intro A R s ⟨hl, hb, he, h⟩
    obtain ⟨hp, g, d, tk, os⟩ := s
    have f3 := AutoSeq1.sub_list_list
    have hne : ¬ (us.size != vs.size) = true := by simp [hsz]
    wp_walk using wpAny_loadPart' hl, wpAny_loadPart' hb
    exact ⟨plainId_quiet plain_eq_loop _, codeAny_builtin entry_eq_loop (by
      rw [Around.under_plainId plain_eq_loop _]
      exact ne_loopP l b us vs n n2 dd dd2 sl sl2 hsz _ 0 rfl A R _ ⟨hl, hb, he, h⟩)⟩
  exact wpAny_richCompare_same_room (op := .NotEq) ta tb F.slot_list_ne (call_meetsIn F.slot_list_ne ta F.entry_list_ne (F.args_list_ne_2 _ _) ne ⟨ho, ho2, he, (fun x => nomatch x), h⟩) hu
/-! two things of two relations are equal -/
def EPR (X : Cx) (n : Nat) (r1 r2 : Rel) : Prop := ∀ (A : Around), A.units + 64 + n < cLine → ∀ (pins : List (Addr × Obj)) (s : Shared) (σ : L2.St) (H : Hp) (x y : V) (u v : Value), Inv X pins σ H s → L2.RelV x u → L2.RelV y v → r1.p x H → r2.p y H → EqP X.prog X.w A s u v true
theorem epr_str {X : Cx} (z : Str) : EPR X 0 (rStr z) (rStr z) := fun A hu pins s σ H x y u v I rx ry h1 h2 => by
  cases h1
  cases h2
  exact (eqAt_same rx ry rfl).eqP
theorem epr_dct {X : Cx} {S T : PT} (h : eqTb S T = true) : EPR X 0 (rDct X.prog X.w X.K (mI S)) (rDct X.prog X.w X.K (mI T)) := fun A hu pins s σ H x y u v I rx ry h1 h2 => by
  obtain ⟨a, o, es, rfl, ha, hal⟩ := id h1
  obtain ⟨b, o', fs, rfl, hb, hal'⟩ := id h2
  cases (show u = Value.ref a from rx)
  cases (show v = Value.ref b from ry)
  by_cases e : a = b
  · subst e
    exact (SeqAt.EqAt.same _).eqP
  · refine eqP_refs e fun E Q q => ?_
    exact (rdct_b (A := A) (by omega) I rx ry h1 h2 (by rw [h]; exact q)).2
theorem epr_items {X : Cx} {n : Nat} {rs ss : List Rel} (h : Paired (EPR X n) rs ss) {A : Around} (hu : A.units + 64 + n < cLine) {pins : List (Addr × Obj)} {s : Shared} {σ : L2.St} {H : Hp} (I : Inv X pins σ H s) :
    ∀ {xs ys : List V} {us vs : List Value}, Al H rs xs → Al H ss ys → Vals xs us → Vals ys vs → ∀ j (h1 : j < us.length) (h2 : j < vs.length), EqP X.prog X.w A s us[j] vs[j] true := by
  induction h with
  | nil =>
    intro xs ys us vs a1 a2 r1 r2 j h1
    cases a1
    cases r1
    exact absurd h1 (Nat.not_lt_zero j)
  | cons h t ih =>
    intro xs ys us vs a1 a2 r1 r2 j h1 h2
    cases a1 with
    | cons a1 b1 =>
      cases a2 with
      | cons a2 b2 =>
        cases r1 with
        | cons r1 s1 =>
          cases r2 with
          | cons r2 s2 =>
            cases j with
            | zero => exact h A hu pins s σ H _ _ _ _ I r1 r2 a1 a2
            | succ j => exact ih b1 b2 s1 s2 j (Nat.lt_of_succ_lt_succ h1) (Nat.lt_of_succ_lt_succ h2)
theorem epr_lists {X : Cx} {n : Nat} {rs ss : List Rel} (h : Paired (EPR X n) rs ss) {A : Around} (hu : A.units + 65 + n < cLine) {pins : List (Addr × Obj)} {s : Shared} {σ : L2.St} {H : Hp} {x y : V} {u v : Value} (I : Inv X pins σ H s) (rx : L2.RelV x u) (ry : L2.RelV y v) (h1 : (rLst rs).p x H) (h2 : (rLst ss).p y H) :
    ∃ (a b : Addr) (us vs : List Value), u = .ref a ∧ v = .ref b ∧ s.heap.IsList a us.toArray ∧ s.heap.IsList b vs.toArray ∧ us.toArray.size = vs.toArray.size ∧ ∀ j (h1 : j < us.toArray.size) (h2 : j < vs.toArray.size), EqP X.prog X.w A.in1 s us.toArray[j] vs.toArray[j] true := by
  obtain ⟨a, o, xs, rfl, ha, hal⟩ := h1
  obtain ⟨b, o', ys, rfl, hb, hal'⟩ := h2
  cases (show u = Value.ref a from rx)
  cases (show v = Value.ref b from ry)
  obtain ⟨us, r1, p1, _⟩ := I.list (.inl (.inr ⟨o, ha⟩))
  obtain ⟨vs, r2, p2, _⟩ := I.list (.inl (.inr ⟨o', hb⟩))
  refine ⟨a, b, us, vs, rfl, rfl, p1.isList, p2.isList, ?_, fun j h1 h2 => ?_⟩
  · rw [List.size_toArray, List.size_toArray, ← r1.length, ← r2.length, ← Paired.length hal, ← Paired.length hal', Paired.length h]
  · have := epr_items h (A := A.in1) (by show A.units + 1 + 64 + n < cLine; omega) I hal hal' r1 r2 j (by simpa using h1) (by simpa using h2)
    simpa using this
theorem epr_lst {X : Cx} {n : Nat} {rs ss : List Rel} (h : Paired (EPR X n) rs ss) : EPR X (n + 1) (rLst rs) (rLst ss) := fun A hu pins s σ H x y u v I rx ry h1 h2 => by
  obtain ⟨a, b, us, vs, rfl, rfl, p1, p2, hsz, hh⟩ := epr_lists h (A := A) (by omega) I rx ry h1 h2
  by_cases e : a = b
  · subst e
    exact (SeqAt.EqAt.same _).eqP
  · refine eqP_refs e fun E Q q => ?_
    refine rcP_lists (e := fun _ => true) p1 p2 hsz (by omega) hh E Q ?_
    rw [show ((List.range us.toArray.size).all fun _ => true) = true from List.all_eq_true.mpr fun _ _ => rfl]
    exact q
def rEqLL (rs ss : List Rel) : R2 := fun x y H Q => (rLst rs).p x H ∧ (rLst ss).p y H ∧ Q (.bl true) H
def rNeLL (rs ss : List Rel) : R2 := fun x y H Q => (rLst rs).p x H ∧ (rLst ss).p y H ∧ Q (.bl false) H
theorem op_eqLL {X : Cx} {n : Nat} {rs ss : List Rel} (h : Paired (EPR X n) rs ss) (hu : X.A.units + 65 + n < cLine) : OpR X (compareOp .Eq) (rEqLL rs ss) := by
  intro pins s σ H x y u v Q I rx ry ⟨h1, h2, q⟩
  obtain ⟨a, b, us, vs, rfl, rfl, p1, p2, hsz, hh⟩ := epr_lists h (A := X.A) hu I rx ry h1 h2
  show wpAny (model X.prog X.w) X.A (richCompare .Eq (.ref a) (.ref b)) _ _ _
  refine rcP_lists (e := fun _ => true) p1 p2 hsz (by omega) hh _ _ ?_
  rw [show ((List.range us.toArray.size).all fun _ => true) = true from List.all_eq_true.mpr fun _ _ => rfl]
  exact ⟨.bl true, H, I, rfl, q⟩
theorem op_neLL {X : Cx} {n : Nat} {rs ss : List Rel} (h : Paired (EPR X n) rs ss) (hu : X.A.units + 65 + n < cLine) : OpR X (compareOp .NotEq) (rNeLL rs ss) := by
  intro pins s σ H x y u v Q I rx ry ⟨h1, h2, q⟩
  obtain ⟨a, b, us, vs, rfl, rfl, p1, p2, hsz, hh⟩ := epr_lists h (A := X.A) hu I rx ry h1 h2
  show wpAny (model X.prog X.w) X.A (richCompare .NotEq (.ref a) (.ref b)) _ _ _
  exact rc_neP p1 p2 hsz (by omega) hh _ _ ⟨.bl false, H, I, rfl, q⟩
theorem ot_eqLL {B : Bd} {k : Rel → Prop} {rs ss : List Rel} (q : k (rBl true)) : OpT B (rEqLL rs ss) (rLst rs) (rLst ss) k := fun H x y _ h1 h2 Q hQ => ⟨h1, h2, hQ _ _ H q rfl (Same.refl H)⟩
theorem ot_neLL {B : Bd} {k : Rel → Prop} {rs ss : List Rel} (q : k (rBl false)) : OpT B (rNeLL rs ss) (rLst rs) (rLst ss) k := fun H x y _ h1 h2 Q hQ => ⟨h1, h2, hQ _ _ H q rfl (Same.refl H)⟩
end BX
set_option Elab.async false
set_option linter.all false
set_option maxRecDepth 100000
set_option maxHeartbeats 1000000
/-! BXv: == of instances by their own def, whatever it tells; list(range(n)); two items of a list exchanged. -/
namespace BX
open PySem PySem.Spec PyProof.Rows L2
/-! ### == of an instance -/
theorem backV {P : Value → Shared → Prop} {z : V} {v : Value} {s' : Shared} (r : RelV z v) (h : P v s') : PySem.W.CmpBack P v s' := by
  cases z with
  | non => cases (show v = Value.none from r); exact h
  | bl b => cases (show v = Value.bool b from r); exact h
  | int i => obtain ⟨t, e⟩ := (show ∃ t, v = Value.int i t from r); cases e; exact h
  | str x => obtain ⟨t, e⟩ := (show ∃ t, v = Value.str x t from r); cases e; exact h
  | byt x => obtain ⟨t, e⟩ := (show ∃ t, v = Value.bytes x t from r); cases e; exact h
  | flt x => obtain ⟨t, e⟩ := (show ∃ t, v = Value.float x t from r); cases e; exact h
  | ref a => cases (show v = Value.ref a from r); exact h
  | ty n => cases (show v = Value.type n from r); exact h
/-- what the other one is: of the same class, or a tuple -/
def OthB (K : PySem.W.Frag) (C : Addr) (H : Hp) (y : V) : Prop := (∃ b dy gs, y = .ref b ∧ H b = some (.ins C dy gs)) ∨ ∃ b xs, y = .ref b ∧ SqT K H b xs ∧ PySem.W.notFirst K C (.type "tuple") = true
def rOwnB (K : PySem.W.Frag) (C : Addr) (sp : Sp) (E : XK) : R2 := fun x y H Q => ∃ a dx fs, x = .ref a ∧ H a = some (.ins C dx fs) ∧ OthB K C H y ∧ sp [x, y] H Q E
theorem op_ownB {X : Cx} {n : Nat} {C f : Addr} {fd : FuncData} {ps : List Str} {sp : Sp} {E : XK} {CX : CXT} (F : FnOk X.prog X.w X.K X.mg X.base CX n f fd ps sp) (hs : PySem.W.findIn X.K (.ref C) "__eq__" = some (some (.ref f))) (hf : PySem.W.isFn X.K (.ref f) = true) (hb : Binds X.K fd ps [])
    (hx : Passes CX X E) (hr : Room n X.A) : OpR X (compareOp .Eq) (rOwnB X.K C sp E) := by
  intro pins s σ H x y v u Q I rx ry ⟨a, dx, fs, ex, ha, ho, hsp⟩
  subst ex
  obtain rfl : v = Value.ref a := rx
  obtain ⟨mA, J, _⟩ := ins_get I.hok ha
  obtain ⟨od, J, _⟩ := J.look
  obtain ⟨m, hF⟩ := I.fr
  have call : wpAny (model X.prog X.w) X.A (PySem.call (.ref f) [.ref a, u]) (PySem.W.CmpBack (EP X pins σ Q)) X.xe s := by
    have hl := F.len _ _ _ _ hsp
    refine wpAny_call (codeAny_mono (F.run X.A X.stack s H ⟨[.ref a, u], []⟩ [.ref a, u] [.ref a, y] Q E hr I.env0 (by
      have := hb s [.ref a, u] I.kIn (by simpa using hl)
      simpa using this) (.cons rfl (.cons ry .nil)) hsp) fun r s' hq => ?_)
    cases r with
    | error e => exact hx pins σ H s e s' I hq
    | ok fl =>
      cases fl with
      | ret w =>
        obtain ⟨z, H', I', rz, qz⟩ := I.after hq
        exact backV rz ⟨z, H', I', rz, qz⟩
      | next => exact False.elim hq
      | brk => exact False.elim hq
      | cont => exact False.elim hq
  show wpAny (model X.prog X.w) X.A (richCompare .Eq (.ref a) u) _ _ _
  rcases ho with ⟨b, dy, gs, ey, hb'⟩ | ⟨b, xs, ey, hq, hn⟩
  · subst ey
    obtain rfl : u = Value.ref b := ry
    obtain ⟨mB, J', _⟩ := ins_get I.hok hb'
    obtain ⟨od', J', _⟩ := J'.look
    exact PySem.W.cmp_K (op := .Eq) (tb := .ref C) hr.units0 hF I.ok.mod.kin J J'.type (by simp [PySem.W.notFirst]) hs hf call
  · subst ey
    obtain rfl : u = Value.ref b := ry
    obtain ⟨its, rv, ⟨o, hob, hc, n', hd⟩, _⟩ := I.tuple hq
    refine PySem.W.cmp_K (op := .Eq) (tb := .type "tuple") hr.units0 hF I.ok.mod.kin J ?_ hn hs hf call
    exact hc ▸ (PySem.W.Looks.ld hob).andThen .now
theorem ot_ownB {B : Bd} {k : Rel → Prop} {C : Addr} {fs : List (Str × Rel)} {rb : Rel} {S : Spc} {E : XK} (hb : (∃ gs, rb = rIns C gs) ∨ (∃ rs, rb = rTup B.K rs ∧ PySem.W.notFirst B.K C (.type "tuple") = true)) (h : S [rIns C fs, rb] k) :
    OpT B (rOwnB B.K C (spOf S) E) (rIns C fs) rb k := fun H x y ex h1 h2 Q hQ => by
  obtain ⟨a, dx, xs, rfl, ha, hp⟩ := id h1
  refine ⟨a, dx, xs, rfl, ha, ?_, _, k, .cons h1 (.cons h2 .nil), h, fun r v H' q p sm => hQ r v H' q p sm⟩
  rcases hb with ⟨gs, rfl⟩ | ⟨rs, rfl, hn⟩
  · obtain ⟨b, dy, ys, rfl, hb, _⟩ := h2
    exact .inl ⟨b, dy, ys, rfl, hb⟩
  · obtain ⟨b, ys, rfl, hs, _⟩ := h2
    exact .inr ⟨b, ys, rfl, hs, hn⟩
theorem k_ownB {X : Cx} {K : PySem.W.Frag} {n : Nat} {C f : Addr} {fd : FuncData} {ps : List Str} {sp : Sp} {P : Program} {w : World} {mg : Str → Option Value} {base : Heap} (hK : X.K = K) (hP : X.prog = P) (hw : X.w = w) (hm : X.mg = mg) (hB : X.base = base) (c : Callee P w K mg base f fd ps n sp)
    (hs : PySem.W.findIn K (.ref C) "__eq__" = some (some (.ref f))) (hf : PySem.W.isFn K (.ref f) = true) (hx : Passes CX0 X E0) (hr : Room n X.A) : OpR X (compareOp .Eq) (rOwnB K C sp E0) := by
  subst hK hP hw hm hB
  exact op_ownB c.F hs hf c.b hx hr
/-! ### list(range(n)), two items exchanged -/
theorem wl_listRg {B : Bd} {Γ : Ctx} {te : TE} {kl : List Rel → Prop} (h : WpE B Γ te fun r => ∃ n : Nat, r = rInt (n : Int) ∧ n ≤ 16777216 ∧ kl ((List.range n).map fun i : Nat => rInt (i : Int))) : WpL B Γ (tLstRg (tRg1 te)) kl := fun σ H E Q hQ =>
  h σ H E _ fun r v H1 ⟨n, er, hn, hk⟩ p e => by
    subst er
    refine ⟨n, p, RgOk.of_le (Int.le_refl 0) (by omega) (by omega) (by omega), fun q hq => hQ _ q _ _ hk (Same.free e hq) (Same.trans e (Same.new hq)) upd_same ?_⟩
    have e1 : rgV 0 (n : Int) = ((List.range n).map fun i : Nat => V.int (i : Int)) := by
      unfold rgV
      rw [show ((n : Int) - 0).toNat = n by omega]
      refine List.map_congr_left fun i _ => ?_
      rw [Int.zero_add]
    rw [e1]
    have gen : ∀ (L : List Nat) (H : Hp), Al H (L.map fun i : Nat => rInt (i : Int)) (L.map fun i : Nat => V.int (i : Int)) := by
      intro L H
      induction L with
      | nil => exact .nil
      | cons i L ih => exact .cons rfl ih
    exact gen _ _
theorem al_set {H : Hp} : ∀ {rs : List Rel} {vs : List V} (j : Nat) {r : Rel} {v : V}, Al H rs vs → r.p v H → Al H (rs.set j r) (vs.set j v)
  | [], [], _, _, _, .nil, _ => .nil
  | _ :: _, _ :: _, 0, _, _, .cons _ t, p => .cons p t
  | _ :: _, _ :: _, j + 1, _, _, .cons h t, p => .cons h (al_set j t p)
/-- xs[a], xs[b] = c, d: slots that hold ints -/
theorem ws_swapL {B : Bd} {Γ : Ctx} {D : Ends} {i a b c d x y : Nat} {u v : Int} {rs : List Rel} {tz : TS} (hi : Γ[i]? = some (.ml rs)) (ha : Γ[a]? = some (.im (rInt (x : Int)))) (hb : Γ[b]? = some (.im (rInt (y : Int)))) (hc : Γ[c]? = some (.im (rInt u))) (hd : Γ[d]? = some (.im (rInt v)))
    (hx : x < rs.length) (hy : y < rs.length) (h : WpS B D (Γ.set i (.ml ((rs.set x (rInt u)).set y (rInt v)))) tz) :
    WpS B D Γ (tSeq (tAsg (tTup (tCons (tVar c) (tCons (tVar d) tNil))) (gTup B.K 2 (gCons (gSub (tVar i) (tVar a) rSetL) (gCons (gSub (tVar i) (tVar b) rSetL) gNil)))) tz) := fun σ H E => by
  obtain ⟨_, gc, hc'⟩ := E.im_at hc
  cases hc'
  obtain ⟨_, gd, hd'⟩ := E.im_at hd
  cases hd'
  obtain ⟨_, ga, ha'⟩ := E.im_at ha
  cases ha'
  obtain ⟨_, gb, hb'⟩ := E.im_at hb
  cases hb'
  obtain ⟨ov, h1, l, xs, rfl, h0, hl, hal⟩ := E.ty i _ hi
  have lx : xs.length = rs.length := (Paired.length hal).symm
  refine ⟨_, gc, _, gd, ?_⟩
  refine ⟨Nat.le_of_ble_eq_true rfl, fun p hp => ⟨p, [.int u, .int v], rfl, .inl (.inl upd_same), rfl, ?_⟩⟩
  have hne : l ≠ p := fun z => by rw [z, hp] at hl; cases hl
  have hl1 : (upd H p (.tup [.int u, .int v])) l = some (.lst xs) := by rw [upd_ne hne]; exact hl
  refine ⟨_, _, rfl, _, h1, _, ga, l, xs, (x : Int), x, rfl, rfl, hl1, ?_, ?_⟩
  · unfold ixN
    rw [if_pos (by omega), if_pos (by omega), Int.toNat_natCast]
  refine ⟨_, _, rfl, _, h1, _, gb, l, xs.set x (.int u), (y : Int), y, rfl, rfl, upd_same, ?_, rfl, ?_⟩
  · unfold ixN
    rw [if_pos (by omega), if_pos (by rw [List.length_set]; omega), Int.toNat_natCast]
  rw [upd_upd]
  have E1 : Env B Γ σ (upd H p (.tup [.int u, .int v])) := E.mono (Same.new hp)
  refine h σ _ (E1.chg hi rfl h1 hl1 lst_c h0 ⟨l, _, rfl, h0, upd_same, ?_⟩)
  exact Al.st (Im.upd hl1 lst_c) (Al.st (Same.im (Same.new hp)) (al_set y (al_set x hal rfl) rfl))
end BX
set_option Elab.async false
set_option linter.all false
set_option maxRecDepth 100000
set_option maxHeartbeats 1000000
/-! Polynomials as tables: bounds and the ring. -/
namespace Lw
open BX
/-! ### few keys -/
theorem nodup_lt : ∀ (N : Nat) (l : List Nat), l.Nodup → (∀ x ∈ l, x < N) → l.length ≤ N
  | 0, l, _, h => by
    cases l with
    | nil => exact Nat.le_refl _
    | cons x l => exact absurd (h x (List.mem_cons_self ..)) (Nat.not_lt_zero _)
  | N + 1, l, nd, h => by
    by_cases m : N ∈ l
    · have ih := nodup_lt N (l.erase N) (nd.erase N) fun x hx => by
        rw [nd.mem_erase_iff] at hx
        have := h x hx.2
        omega
      rw [List.length_erase_of_mem m] at ih
      omega
    · have ih := nodup_lt N l nd fun x hx => by
        have := h x hx
        have : x ≠ N := fun z => m (z ▸ hx)
        omega
      omega
structure B4 where
  a : Nat
  b : Nat
  c : Nat
  d : Nat
/-- the key lies in the box -/
def In (B : B4) (k : List Int) : Prop := ∃ x y z u : Nat, k = [(x : Int), (y : Int), (z : Int), (u : Int)] ∧ x ≤ B.a ∧ y ≤ B.b ∧ z ≤ B.c ∧ u ≤ B.d
def B4.vol (B : B4) : Nat := (B.a + 1) * (B.b + 1) * (B.c + 1) * (B.d + 1)
def B4.add (B C : B4) : B4 := ⟨B.a + C.a, B.b + C.b, B.c + C.c, B.d + C.d⟩
def B4.mul (n : Nat) (B : B4) : B4 := ⟨n * B.a, n * B.b, n * B.c, n * B.d⟩
theorem In.len {B : B4} {k : List Int} (h : In B k) : k.length = 4 := by
  obtain ⟨x, y, z, u, rfl, _⟩ := h
  rfl
theorem In.add {B C : B4} {k l : List Int} (h : In B k) (g : In C l) : In (B.add C) (add4 k l) := by
  obtain ⟨x, y, z, u, rfl, h1, h2, h3, h4⟩ := h
  obtain ⟨x', y', z', u', rfl, g1, g2, g3, g4⟩ := g
  exact ⟨x + x', y + y', z + z', u + u', by simp [add4], by show _ ≤ B.a + C.a; omega, by show _ ≤ B.b + C.b; omega, by show _ ≤ B.c + C.c; omega, by show _ ≤ B.d + C.d; omega⟩
def code (B : B4) (k : List Int) : Nat := (((k.getD 0 0).toNat * (B.b + 1) + (k.getD 1 0).toNat) * (B.c + 1) + (k.getD 2 0).toNat) * (B.d + 1) + (k.getD 3 0).toNat
theorem mix_lt {x n y m : Nat} (hx : x < n) (hy : y < m) : x * m + y < n * m := by
  have : (x + 1) * m ≤ n * m := Nat.mul_le_mul_right m hx
  rw [Nat.add_mul, Nat.one_mul] at this
  omega
theorem mix_inj {x y x' y' m : Nat} (hy : y < m) (hy' : y' < m) (e : x * m + y = x' * m + y') : x = x' ∧ y = y' := by
  have h0 : 0 < m := by omega
  have e1 : (x * m + y) / m = x := by rw [Nat.mul_comm, Nat.mul_add_div h0, Nat.div_eq_of_lt hy, Nat.add_zero]
  have e2 : (x' * m + y') / m = x' := by rw [Nat.mul_comm, Nat.mul_add_div h0, Nat.div_eq_of_lt hy', Nat.add_zero]
  have : x = x' := by rw [← e1, ← e2, e]
  subst this
  omega
theorem code_lt {B : B4} {k : List Int} (h : In B k) : code B k < B.vol := by
  obtain ⟨x, y, z, u, rfl, h1, h2, h3, h4⟩ := h
  show ((x * (B.b + 1) + y) * (B.c + 1) + z) * (B.d + 1) + u < (B.a + 1) * (B.b + 1) * (B.c + 1) * (B.d + 1)
  exact mix_lt (mix_lt (mix_lt (by omega) (by omega)) (by omega)) (by omega)
theorem code_inj {B : B4} {k l : List Int} (h : In B k) (g : In B l) (e : code B k = code B l) : k = l := by
  obtain ⟨x, y, z, u, rfl, h1, h2, h3, h4⟩ := h
  obtain ⟨x', y', z', u', rfl, g1, g2, g3, g4⟩ := g
  have e' : ((x * (B.b + 1) + y) * (B.c + 1) + z) * (B.d + 1) + u = ((x' * (B.b + 1) + y') * (B.c + 1) + z') * (B.d + 1) + u' := e
  obtain ⟨e1, rfl⟩ := mix_inj (by omega) (by omega) e'
  obtain ⟨e2, rfl⟩ := mix_inj (by omega) (by omega) e1
  obtain ⟨rfl, rfl⟩ := mix_inj (by omega) (by omega) e2
  rfl
theorem box_few {B : B4} : ∀ {l : List (List Int)}, l.Nodup → (∀ k ∈ l, In B k) → l.length ≤ B.vol := by
  intro l nd h
  have nd' : (l.map (code B)).Nodup := by
    induction l with
    | nil => exact List.nodup_nil
    | cons k l ih =>
      rw [List.map_cons, List.nodup_cons]
      rw [List.nodup_cons] at nd
      refine ⟨fun m => ?_, ih nd.2 fun k hk => h k (List.mem_cons_of_mem _ hk)⟩
      obtain ⟨k', hk', e⟩ := List.mem_map.mp m
      have := code_inj (h k' (List.mem_cons_of_mem _ hk')) (h k (List.mem_cons_self ..)) e
      exact nd.1 (this ▸ hk')
  have := nodup_lt B.vol (l.map (code B)) nd' fun x hx => by
    obtain ⟨k, hk, rfl⟩ := List.mem_map.mp hx
    exact code_lt (h k hk)
  rw [List.length_map] at this
  exact this

/-! ### one value a key -/
theorem getM_none {κ α : Type} [DecidableEq κ] {m : List (κ × α)} {k : κ} : getM m k = none ↔ k ∉ m.map (·.1) := by
  induction m with
  | nil => simp [getM]
  | cons e m ih =>
    rw [getM_cons, List.map_cons, List.mem_cons]
    by_cases c : e.1 = k
    · rw [if_pos c]; simp [c]
    · rw [if_neg c, ih]
      constructor
      · intro h z
        rcases z with z | z
        · exact c z.symm
        · exact h z
      · exact fun h z => h (.inr z)
theorem getM_mem {κ α : Type} [DecidableEq κ] {m : List (κ × α)} (nd : (m.map (·.1)).Nodup) {e : κ × α} (h : e ∈ m) : getM m e.1 = some e.2 := by
  induction m with
  | nil => cases h
  | cons d m ih =>
    rw [getM_cons]
    rw [List.map_cons, List.nodup_cons] at nd
    rcases List.mem_cons.mp h with h | h
    · rw [h, if_pos rfl]
    · rw [if_neg (fun (z : d.1 = e.1) => nd.1 (by rw [z]; exact List.mem_map_of_mem h))]
      exact ih nd.2 h
theorem mem_getM {κ α : Type} [DecidableEq κ] {m : List (κ × α)} {k : κ} {a : α} (h : getM m k = some a) : (k, a) ∈ m := by
  induction m with
  | nil => cases h
  | cons d m ih =>
    rw [getM_cons] at h
    by_cases c : d.1 = k
    · rw [if_pos c] at h
      cases h
      rw [← c]
      exact List.mem_cons_self ..
    · rw [if_neg c] at h
      exact List.mem_cons_of_mem _ (ih h)
theorem getM_put {κ α : Type} [DecidableEq κ] (m : List (κ × α)) (k j : κ) (a : α) : getM (putM m k a) j = if j = k then some a else getM m j := by
  unfold putM
  by_cases c : (getM m k).isSome = true
  · rw [if_pos c]
    have key : ∀ l : List (κ × α), getM (l.map fun e => if e.1 = k then (e.1, a) else e) j = if j = k then (getM l k).map fun _ => a else getM l j := by
      intro l
      induction l with
      | nil => simp [getM]
      | cons e l ih =>
        rw [List.map_cons, getM_cons, getM_cons, getM_cons]
        by_cases e1 : e.1 = k
        · simp only [e1, if_true]
          by_cases e2 : k = j
          · simp [e2]
          · rw [if_neg e2, ih, if_neg e2]
            simp [Ne.symm e2]
        · simp only [e1, if_false]
          by_cases e2 : e.1 = j
          · have : ¬ j = k := fun z => e1 (e2.trans z)
            simp [e2, this]
          · rw [if_neg e2, ih, if_neg e2]
    rw [key]
    split
    · obtain ⟨x, hx⟩ := Option.isSome_iff_exists.mp c
      rw [hx]; rfl
    · rfl
  · rw [if_neg c]
    have hn : getM m k = none := by cases h : getM m k with
      | none => rfl
      | some x => rw [h] at c; exact absurd rfl c
    have key : ∀ l : List (κ × α), getM l k = none → getM (l ++ [(k, a)]) j = if j = k then some a else getM l j := by
      intro l
      induction l with
      | nil =>
        intro _
        rw [List.nil_append, getM_cons]
        by_cases e : k = j
        · simp [e]
        · simp [e, Ne.symm e, getM]
      | cons e l ih =>
        intro h
        rw [getM_cons] at h
        by_cases e1 : e.1 = k
        · rw [if_pos e1] at h; cases h
        · rw [if_neg e1] at h
          rw [List.cons_append, getM_cons, getM_cons, ih h]
          by_cases e2 : e.1 = j
          · have : ¬ j = k := fun z => e1 (e2.trans z)
            simp [e2, this]
          · simp [e2]
    exact key m hn
theorem cf_putA (m : PT) (k j : List Int) (c : Int) : cf (putA m k c) j = cf m j + if j = k then c else 0 := by
  show (getM (putM m k (cf m k + c)) j).getD 0 = _
  rw [getM_put]
  by_cases h : j = k
  · subst h
    rw [if_pos rfl, if_pos rfl]
    rfl
  · rw [if_neg h, if_neg h, Int.add_zero]
    rfl
theorem putM_nodup' {κ α : Type} [DecidableEq κ] {m : List (κ × α)} {k : κ} {a : α} (h : (m.map (·.1)).Nodup) : ((putM m k a).map (·.1)).Nodup := by
  unfold putM
  split
  · rw [List.map_map]
    have e : ((fun x : κ × α => x.1) ∘ fun e : κ × α => if e.1 = k then (e.1, a) else e) = fun e => e.1 := by
      funext e
      show (if e.1 = k then (e.1, a) else e).1 = e.1
      split <;> rfl
    rw [e]
    exact h
  · rename_i c
    rw [List.map_append, List.nodup_append]
    refine ⟨h, by simp, fun x hx y hy => ?_⟩
    have hy' : y = k := by simpa using hy
    subst hy'
    intro z
    subst z
    have hn : getM m x = none := by cases q : getM m x with
      | none => rfl
      | some z => rw [q] at c; exact absurd rfl c
    exact getM_none.mp hn hx

/-! ### canonical tables -/
/-- sorted strictly, no noughts -/
structure Can (A : PT) : Prop where
  st : A.Pairwise fun a b => a.1 < b.1
  nz : ∀ e ∈ A, e.2 ≠ 0
theorem Can.nd {A : PT} (h : Can A) : (A.map (·.1)).Nodup := by
  rw [List.nodup_iff_pairwise_ne, List.pairwise_map]
  exact h.st.imp fun {a b} l z => by
    rw [z] at l
    exact List.lt_irrefl _ l
theorem keyLe_iff {a b : List Int} : keyLe a b = true ↔ a ≤ b := by unfold keyLe; simp
theorem can_canon {m : PT} (nd : (m.map (·.1)).Nodup) : Can (canon m) := by
  refine ⟨?_, fun e he => ?_⟩
  · unfold canon
    rw [List.pairwise_filterMap]
    have h1 : ((m.map (·.1)).mergeSort keyLe).Pairwise fun a b => keyLe a b = true := List.pairwise_mergeSort (fun a b c h1 h2 => by
        rw [keyLe_iff] at *
        exact List.le_trans h1 h2) (fun a b => by
        rw [Bool.or_eq_true, keyLe_iff, keyLe_iff]
        exact List.le_total a b) _
    have h2 : ((m.map (·.1)).mergeSort keyLe).Nodup := (List.mergeSort_perm _ _).nodup_iff.mpr nd
    rw [List.nodup_iff_pairwise_ne] at h2
    refine (h1.and h2).imp fun {a b} ⟨h, hn⟩ e1 q1 e2 q2 => ?_
    have g : ∀ {k : List Int} {e : List Int × Int}, e ∈ canonF m k → e.1 = k := by
      intro k e h
      unfold canonF at h
      split at h
      · cases h
      · cases h; rfl
    rw [g q1, g q2]
    rw [keyLe_iff] at h
    by_cases l : a < b
    · exact l
    · exact absurd (List.le_antisymm h (List.not_lt.mp l)) hn
  · unfold canon at he
    obtain ⟨k, _, hk⟩ := List.mem_filterMap.mp he
    unfold canonF at hk
    split at hk
    · cases hk
    · cases hk
      assumption
theorem mem_canon {m : PT} {k : List Int} {c : Int} : (k, c) ∈ canon m ↔ k ∈ m.map (·.1) ∧ c = cf m k ∧ c ≠ 0 := by
  unfold canon
  rw [List.mem_filterMap]
  constructor
  · rintro ⟨k', h1, h2⟩
    unfold canonF at h2
    split at h2
    · cases h2
    · cases h2
      exact ⟨List.mem_mergeSort.mp h1, rfl, by assumption⟩
  · rintro ⟨h1, h2, h3⟩
    refine ⟨k, List.mem_mergeSort.mpr h1, ?_⟩
    unfold canonF
    rw [if_neg (by rw [← h2]; exact h3), ← h2]
theorem cf_none {m : PT} {k : List Int} (h : k ∉ m.map (·.1)) : cf m k = 0 := by
  unfold cf
  rw [getM_none.mpr h]
  rfl
theorem cf_mem {m : PT} (nd : (m.map (·.1)).Nodup) {k : List Int} {c : Int} (h : (k, c) ∈ m) : cf m k = c := by
  unfold cf
  rw [getM_mem nd h]
  rfl
theorem cf_canon {m : PT} (nd : (m.map (·.1)).Nodup) (k : List Int) : cf (canon m) k = cf m k := by
  have hc := can_canon nd
  by_cases h : cf m k = 0
  · rw [h]
    refine cf_none fun hk => ?_
    obtain ⟨e, he, rfl⟩ := List.mem_map.mp hk
    obtain ⟨_, h2, h3⟩ := mem_canon.mp (show (e.1, e.2) ∈ canon m from he)
    exact h3 (h2.trans h)
  · refine cf_mem hc.nd (mem_canon.mpr ⟨?_, rfl, h⟩)
    apply Classical.byContradiction
    intro hk
    exact h (cf_none hk)
/-- canonical tables with the same values are the same -/
theorem can_ext {A B : PT} (hA : Can A) (hB : Can B) (h : ∀ k, cf A k = cf B k) : A = B := by
  have sub : ∀ {A B : PT}, Can A → Can B → (∀ k, cf A k = cf B k) → ∀ e ∈ A, e ∈ B := by
    intro A B hA hB h e he
    have h1 := cf_mem hA.nd (show (e.1, e.2) ∈ A from he)
    rw [h] at h1
    unfold cf at h1
    cases q : getM B e.1 with
    | none => rw [q] at h1; exact absurd h1.symm (hA.nz e he)
    | some c =>
      rw [q] at h1
      have h1' : c = e.2 := h1
      subst h1'
      exact mem_getM q
  have hs : ∀ {A B : PT}, A.Pairwise (fun a b => a.1 < b.1) → B.Pairwise (fun a b => a.1 < b.1) → (∀ e, e ∈ A ↔ e ∈ B) → A = B := by
    intro A
    induction A with
    | nil =>
      intro B _ _ h
      cases B with
      | nil => rfl
      | cons b B => exact absurd ((h b).mpr (List.mem_cons_self ..)) (by simp)
    | cons a A ih =>
      intro B sA sB h
      cases B with
      | nil => exact absurd ((h a).mp (List.mem_cons_self ..)) (by simp)
      | cons b B =>
        rw [List.pairwise_cons] at sA sB
        have e : a = b := by
          rcases List.mem_cons.mp ((h a).mp (List.mem_cons_self ..)) with e | m1
          · exact e
          · rcases List.mem_cons.mp ((h b).mpr (List.mem_cons_self ..)) with e | m2
            · exact e.symm
            · exact absurd (List.lt_trans (sA.1 b m2) (sB.1 a m1)) (List.lt_irrefl _)
        subst e
        rw [ih sA.2 sB.2 fun e => ?_]
        constructor
        · intro m
          rcases List.mem_cons.mp ((h e).mp (List.mem_cons_of_mem _ m)) with q | q
          · subst q; exact absurd (sA.1 _ m) (List.lt_irrefl _)
          · exact q
        · intro m
          rcases List.mem_cons.mp ((h e).mpr (List.mem_cons_of_mem _ m)) with q | q
          · subst q; exact absurd (sB.1 _ m) (List.lt_irrefl _)
          · exact q
  exact hs hA.st hB.st fun e => ⟨sub hA hB h e, sub hB hA (fun k => (h k).symm) e⟩
end Lw
set_option Elab.async false
set_option linter.all false
set_option maxRecDepth 100000
set_option maxHeartbeats 1000000
/-! The ring of polynomials: formal sums, by their values. -/
namespace Lw
open BX
abbrev M4 := Int × Int × Int × Int
abbrev FS := List (M4 × Int)
def M4.pl (x y : M4) : M4 := (x.1 + y.1, x.2.1 + y.2.1, x.2.2.1 + y.2.2.1, x.2.2.2 + y.2.2.2)
def M4.mi (x y : M4) : M4 := (x.1 - y.1, x.2.1 - y.2.1, x.2.2.1 - y.2.2.1, x.2.2.2 - y.2.2.2)
def M4.no : M4 := (0, 0, 0, 0)
theorem M4.eq {x y : M4} (h1 : x.1 = y.1) (h2 : x.2.1 = y.2.1) (h3 : x.2.2.1 = y.2.2.1) (h4 : x.2.2.2 = y.2.2.2) : x = y := by
  obtain ⟨a, b, c, d⟩ := x
  obtain ⟨a', b', c', d'⟩ := y
  simp only at h1 h2 h3 h4
  subst h1 h2 h3 h4
  rfl
theorem M4.comm (x y : M4) : M4.pl x y = M4.pl y x := M4.eq (Int.add_comm ..) (Int.add_comm ..) (Int.add_comm ..) (Int.add_comm ..)
theorem M4.assoc (x y z : M4) : M4.pl (M4.pl x y) z = M4.pl x (M4.pl y z) := M4.eq (Int.add_assoc ..) (Int.add_assoc ..) (Int.add_assoc ..) (Int.add_assoc ..)
theorem M4.zero (x : M4) : M4.pl x M4.no = x := M4.eq (Int.add_zero _) (Int.add_zero _) (Int.add_zero _) (Int.add_zero _)
theorem M4.move (x y k : M4) : M4.pl x y = k ↔ y = M4.mi k x := by
  constructor
  · intro h
    subst h
    exact M4.eq (by show _ = x.1 + y.1 - x.1; omega) (by show _ = x.2.1 + y.2.1 - x.2.1; omega) (by show _ = x.2.2.1 + y.2.2.1 - x.2.2.1; omega) (by show _ = x.2.2.2 + y.2.2.2 - x.2.2.2; omega)
  · intro h
    subst h
    exact M4.eq (by show x.1 + (k.1 - x.1) = _; omega) (by show x.2.1 + (k.2.1 - x.2.1) = _; omega) (by show x.2.2.1 + (k.2.2.1 - x.2.2.1) = _; omega) (by show x.2.2.2 + (k.2.2.2 - x.2.2.2) = _; omega)
def sm : FS → M4 → Int
  | [], _ => 0
  | e :: A, k => (if e.1 = k then e.2 else 0) + sm A k
theorem sm_append (A B : FS) (k : M4) : sm (A ++ B) k = sm A k + sm B k := by
  induction A with
  | nil => show sm B k = 0 + sm B k; omega
  | cons e A ih => show _ + sm (A ++ B) k = _ + sm A k + sm B k; rw [ih]; omega
def ng (A : FS) : FS := A.map fun e => (e.1, -e.2)
theorem sm_ng (A : FS) (k : M4) : sm (ng A) k = - sm A k := by
  induction A with
  | nil => rfl
  | cons e A ih =>
    show (if e.1 = k then -e.2 else 0) + sm (ng A) k = -((if e.1 = k then e.2 else 0) + sm A k)
    rw [ih]
    split <;> omega
def rowF (a : M4 × Int) (B : FS) : FS := B.map fun b => (M4.pl a.1 b.1, a.2 * b.2)
def prodF (A B : FS) : FS := A.flatMap fun a => rowF a B
theorem sm_row (a : M4 × Int) (B : FS) (k : M4) : sm (rowF a B) k = a.2 * sm B (M4.mi k a.1) := by
  induction B with
  | nil => show 0 = a.2 * 0; omega
  | cons b B ih =>
    show (if M4.pl a.1 b.1 = k then a.2 * b.2 else 0) + sm (rowF a B) k = a.2 * ((if b.1 = M4.mi k a.1 then b.2 else 0) + sm B (M4.mi k a.1))
    rw [ih, Int.mul_add]
    by_cases h : M4.pl a.1 b.1 = k
    · rw [if_pos h, if_pos ((M4.move ..).mp h)]
    · rw [if_neg h, if_neg fun z => h ((M4.move ..).mpr z), Int.mul_zero]
theorem prod_cons (a : M4 × Int) (A B : FS) : prodF (a :: A) B = rowF a B ++ prodF A B := rfl
theorem sm_prodR {B B' : FS} (h : ∀ k, sm B k = sm B' k) (A : FS) (k : M4) : sm (prodF A B) k = sm (prodF A B') k := by
  induction A with
  | nil => rfl
  | cons a A ih => rw [prod_cons, prod_cons, sm_append, sm_append, ih, sm_row, sm_row, h]
theorem sm_prod_add (A B C : FS) (k : M4) : sm (prodF A (B ++ C)) k = sm (prodF A B) k + sm (prodF A C) k := by
  induction A with
  | nil => rfl
  | cons a A ih =>
    rw [prod_cons, prod_cons, prod_cons, sm_append, sm_append, sm_append, ih, sm_row, sm_row, sm_row, sm_append, Int.mul_add]
    omega
theorem sm_prod_one (B : FS) (a : M4 × Int) (k : M4) : sm (prodF B [a]) k = sm (rowF a B) k := by
  induction B with
  | nil => rfl
  | cons b B ih =>
    rw [prod_cons, sm_append, ih]
    show sm [(M4.pl b.1 a.1, b.2 * a.2)] k + _ = (if M4.pl a.1 b.1 = k then a.2 * b.2 else 0) + sm (rowF a B) k
    rw [M4.comm b.1 a.1, Int.mul_comm b.2 a.2]
    show ((if M4.pl a.1 b.1 = k then a.2 * b.2 else 0) + 0) + _ = _
    rw [Int.add_zero]
theorem sm_comm (A B : FS) (k : M4) : sm (prodF A B) k = sm (prodF B A) k := by
  induction A with
  | nil =>
    have : ∀ B : FS, prodF B [] = [] := by
      intro B
      induction B with
      | nil => rfl
      | cons b B ih => rw [prod_cons, ih]; rfl
    rw [this]
    rfl
  | cons a A ih =>
    rw [prod_cons, sm_append, ih, ← sm_prod_one B a k, show a :: A = [a] ++ A from rfl, sm_prod_add]
theorem sm_prodL {A A' : FS} (h : ∀ k, sm A k = sm A' k) (B : FS) (k : M4) : sm (prodF A B) k = sm (prodF A' B) k := by
  rw [sm_comm, sm_comm A', sm_prodR h]
theorem prod_assoc (A B C : FS) : prodF (prodF A B) C = prodF A (prodF B C) := by
  unfold prodF
  rw [List.flatMap_assoc]
  congr 1
  funext a
  unfold rowF
  rw [List.map_flatMap, List.flatMap_map]
  congr 1
  funext b
  rw [List.map_map]
  apply List.map_congr_left
  intro c _
  show (M4.pl (M4.pl a.1 b.1) c.1, a.2 * b.2 * c.2) = (M4.pl a.1 (M4.pl b.1 c.1), a.2 * (b.2 * c.2))
  rw [M4.assoc, Int.mul_assoc]
instance polS : Setoid FS := ⟨fun A B => ∀ k, sm A k = sm B k, ⟨fun _ _ => rfl, fun h k => (h k).symm, fun h g k => (h k).trans (g k)⟩⟩
def Pol : Type := Quotient polS
def Pol.mk (A : FS) : Pol := Quotient.mk polS A
theorem Pol.sound {A B : FS} (h : ∀ k, sm A k = sm B k) : Pol.mk A = Pol.mk B := Quotient.sound (s := polS) h
theorem Pol.exact {A B : FS} (h : Pol.mk A = Pol.mk B) : ∀ k, sm A k = sm B k := Quotient.exact (s := polS) h
theorem Pol.ind {p : Pol → Prop} (h : ∀ A, p (Pol.mk A)) (x : Pol) : p x := Quotient.ind (s := polS) h x
def Pol.add (x y : Pol) : Pol := Quotient.liftOn₂ (s₁ := polS) (s₂ := polS) x y (fun A B => Pol.mk (A ++ B)) fun A B A' B' h g => Pol.sound fun k => by rw [sm_append, sm_append, h, g]
def Pol.mul (x y : Pol) : Pol := Quotient.liftOn₂ (s₁ := polS) (s₂ := polS) x y (fun A B => Pol.mk (prodF A B)) fun A B A' B' h g => Pol.sound fun k => (sm_prodL h B k).trans (sm_prodR g A' k)
def Pol.neg (x : Pol) : Pol := Quotient.liftOn (s := polS) x (fun A => Pol.mk (ng A)) fun A A' h => Pol.sound fun k => by rw [sm_ng, sm_ng, h]
def Pol.con (c : Int) : Pol := Pol.mk [(M4.no, c)]
def Pol.pow (x : Pol) : Nat → Pol
  | 0 => Pol.con 1
  | n + 1 => Pol.mul (Pol.pow x n) x
instance : Add Pol := ⟨Pol.add⟩
instance : Mul Pol := ⟨Pol.mul⟩
instance : Neg Pol := ⟨Pol.neg⟩
instance : Sub Pol := ⟨fun a b => a + -b⟩
instance : NatCast Pol := ⟨fun n => Pol.con n⟩
instance : IntCast Pol := ⟨Pol.con⟩
instance (n : Nat) : OfNat Pol n := ⟨Pol.con n⟩
instance : SMul Nat Pol := ⟨fun n a => (n : Pol) * a⟩
instance : SMul Int Pol := ⟨fun n a => (n : Pol) * a⟩
instance : HPow Pol Nat Pol := ⟨Pol.pow⟩
theorem con_sm (c : Int) (k : M4) : sm [(M4.no, c)] k = if M4.no = k then c else 0 := by
  show (if M4.no = k then c else 0) + 0 = _
  omega
theorem con0 (k : M4) : (if M4.no = k then ((0 : Nat) : Int) else 0) = 0 := by split <;> rfl
theorem row_no (c : Int) (A : FS) : ∀ k, sm (prodF [(M4.no, c)] A) k = c * sm A k := fun k => by
  rw [prod_cons, sm_append, sm_row]
  have e : M4.mi k M4.no = k := M4.eq (Int.sub_zero _) (Int.sub_zero _) (Int.sub_zero _) (Int.sub_zero _)
  rw [e]
  show c * sm A k + 0 = _
  omega
instance : Lean.Grind.Semiring Pol where
  ofNat := fun n => inferInstance
  nsmul := inferInstance
  npow := inferInstance
  natCast := inferInstance
  add_zero := Pol.ind fun A => Pol.sound fun k => by
    rw [sm_append, con_sm, con0, Int.add_zero]
  add_comm := fun x y => by
    induction x using Pol.ind with
    | h A =>
      induction y using Pol.ind with
      | h B => exact Pol.sound fun k => by rw [sm_append, sm_append]; omega
  add_assoc := fun x y z => by
    induction x using Pol.ind with
    | h A =>
      induction y using Pol.ind with
      | h B =>
        induction z using Pol.ind with
        | h C => exact Pol.sound fun k => by rw [List.append_assoc]
  mul_assoc := fun x y z => by
    induction x using Pol.ind with
    | h A =>
      induction y using Pol.ind with
      | h B =>
        induction z using Pol.ind with
        | h C => exact Pol.sound fun k => by rw [prod_assoc]
  mul_one := Pol.ind fun A => Pol.sound fun k => by
    rw [sm_comm, row_no]
    show 1 * sm A k = _
    omega
  one_mul := Pol.ind fun A => Pol.sound fun k => by
    rw [row_no]
    show 1 * sm A k = _
    omega
  left_distrib := fun x y z => by
    induction x using Pol.ind with
    | h A =>
      induction y using Pol.ind with
      | h B =>
        induction z using Pol.ind with
        | h C => exact Pol.sound fun k => by rw [sm_prod_add, sm_append]
  right_distrib := fun x y z => by
    induction x using Pol.ind with
    | h A =>
      induction y using Pol.ind with
      | h B =>
        induction z using Pol.ind with
        | h C => exact Pol.sound fun k => by rw [sm_append, sm_comm, sm_prod_add, sm_comm C A, sm_comm C B]
  zero_mul := Pol.ind fun A => Pol.sound fun k => by
    rw [row_no, con_sm, con0]
    show 0 * sm A k = 0
    rw [Int.zero_mul]
  mul_zero := Pol.ind fun A => Pol.sound fun k => by
    rw [sm_comm, row_no, con_sm, con0]
    show 0 * sm A k = 0
    rw [Int.zero_mul]
  pow_zero := fun a => rfl
  pow_succ := fun a n => rfl
  ofNat_succ := fun a => Pol.sound fun k => by
    rw [sm_append, con_sm, con_sm, con_sm]
    show _ = _ + (if M4.no = k then ((1 : Nat) : Int) else 0)
    split <;> simp
instance : Lean.Grind.Ring Pol where
  zsmul := inferInstance
  intCast := inferInstance
  neg_add_cancel := Pol.ind fun A => Pol.sound fun k => by
    rw [sm_append, sm_ng, con_sm, con0]
    omega
  sub_eq_add_neg := fun _ _ => rfl
  neg_zsmul := fun i => Pol.ind fun A => Pol.sound fun k => by
    rw [row_no, sm_ng, row_no, Int.neg_mul]
  intCast_neg := fun i => Pol.sound fun k => by
    rw [con_sm, sm_ng, con_sm]
    split <;> omega
instance : Lean.Grind.CommRing Pol where
  mul_comm := fun x y => by
    induction x using Pol.ind with
    | h A =>
      induction y using Pol.ind with
      | h B => exact Pol.sound (sm_comm A B)
example (a b c d s : Pol) (h : a = b * c + d) : s * a = (s * b - c) * c + (s * d + c * c) := by grind
end Lw
set_option Elab.async false
set_option linter.all false
set_option maxRecDepth 100000
set_option maxHeartbeats 1000000
/-! Tables and the ring. -/
namespace Lw
open BX
def N4 (A : PT) : Prop := ∀ e ∈ A, e.1.length = 4
def nm (k : List Int) : M4 := (k.getD 0 0, k.getD 1 0, k.getD 2 0, k.getD 3 0)
def kx (x : M4) : List Int := [x.1, x.2.1, x.2.2.1, x.2.2.2]
theorem nm_kx (x : M4) : nm (kx x) = x := rfl
theorem kx_nm {k : List Int} (h : k.length = 4) : kx (nm k) = k := by
  match k, h with
  | [a, b, c, d], _ => rfl
theorem nm_eq {k : List Int} {x : M4} (h : k.length = 4) : nm k = x ↔ k = kx x := by
  constructor
  · intro e; rw [← e, kx_nm h]
  · intro e; rw [e, nm_kx]
theorem nm_add (a b : List Int) : nm (add4 a b) = M4.pl (nm a) (nm b) := rfl
def toF (A : PT) : FS := A.map fun e => (nm e.1, e.2)
def pol (A : PT) : Pol := Pol.mk (toF A)
def mon (k : List Int) (c : Int) : Pol := Pol.mk [(nm k, c)]
structure Tb (A : PT) : Prop where
  nd : (A.map (·.1)).Nodup
  n4 : N4 A
theorem sm_cf {A : PT} (h : Tb A) (x : M4) : sm (toF A) x = cf A (kx x) := by
  obtain ⟨nd, n4⟩ := h
  induction A with
  | nil => rfl
  | cons e A ih =>
    rw [List.map_cons, List.nodup_cons] at nd
    have ih := ih nd.2 fun d hd => n4 d (List.mem_cons_of_mem _ hd)
    show (if nm e.1 = x then e.2 else 0) + sm (toF A) x = (getM (e :: A) (kx x)).getD 0
    rw [ih, getM_cons]
    have h4 := n4 e (List.mem_cons_self ..)
    by_cases c : e.1 = kx x
    · rw [if_pos c, if_pos ((nm_eq h4).mpr c), cf_none (by rw [← c]; exact nd.1)]
      show e.2 + 0 = e.2
      omega
    · rw [if_neg c, if_neg fun z => c ((nm_eq h4).mp z)]
      show 0 + cf A (kx x) = cf A (kx x)
      omega
theorem Tb.nil : Tb [] := ⟨List.nodup_nil, fun _ h => by cases h⟩
theorem Tb.put {m : PT} (h : Tb m) {k : List Int} (hk : k.length = 4) (a : Int) : Tb (putM m k a) := by
  refine ⟨putM_nodup' h.nd, ?_⟩
  have n4 := h.n4
  unfold putM
  split
  · intro e he
    obtain ⟨e', he', rfl⟩ := List.mem_map.mp he
    split <;> exact n4 e' he'
  · intro e he
    rcases List.mem_append.mp he with he | he
    · exact n4 e he
    · rw [List.mem_singleton.mp he]; exact hk
theorem pol_put {m : PT} (h : Tb m) {k : List Int} (hk : k.length = 4) (c : Int) : pol (putA m k c) = pol m + mon k c := Pol.sound fun x => by
  rw [sm_append, sm_cf (show Tb (putA m k c) from h.put hk _), sm_cf h]
  show cf (putA m k c) (kx x) = _
  rw [cf_putA]
  show _ = _ + ((if nm k = x then c else 0) + 0)
  by_cases e : kx x = k
  · rw [if_pos e, if_pos ((nm_eq hk).mpr e.symm)]; omega
  · rw [if_neg e, if_neg fun z => e ((nm_eq hk).mp z).symm]; omega
theorem Tb.can {A : PT} (h : Can A) (g : N4 A) : Tb A := ⟨h.nd, g⟩
theorem Tb.canon {m : PT} (h : Tb m) : Tb (BX.canon m) := ⟨(can_canon h.nd).nd, fun e he => by
  obtain ⟨h1, _⟩ := mem_canon.mp (show (e.1, e.2) ∈ BX.canon m from he)
  obtain ⟨d, hd, e1⟩ := List.mem_map.mp h1
  rw [← e1]
  exact h.n4 d hd⟩
theorem pol_canon {m : PT} (h : Tb m) : pol (canon m) = pol m := Pol.sound fun x => by
  rw [sm_cf h.canon, sm_cf h, cf_canon h.nd]
/-- the table is told by its polynomial -/
theorem can_pol {A B : PT} (hA : Can A) (gA : N4 A) (hB : Can B) (gB : N4 B) (h : pol A = pol B) : A = B := can_ext hA hB fun k => by
  by_cases hk : k.length = 4
  · have := Pol.exact h (nm k)
    rw [sm_cf (.can hA gA), sm_cf (.can hB gB), kx_nm hk] at this
    exact this
  · have : ∀ {A : PT}, N4 A → cf A k = 0 := fun {A} g => cf_none fun m => by
      obtain ⟨e, he, rfl⟩ := List.mem_map.mp m
      exact hk (g e he)
    rw [this gA, this gB]
theorem foldM_tb {A : PT} (h : Tb A) : foldM A = A := by
  have gen : ∀ (A acc : PT), ((acc ++ A).map (·.1)).Nodup → A.foldl (fun acc e => putM acc e.1 e.2) acc = acc ++ A := by
    intro A
    induction A with
    | nil => intro acc _; rw [List.append_nil]; rfl
    | cons e A ih =>
      intro acc nd
      have hn : getM acc e.1 = none := getM_none.mpr fun m => by
        rw [List.map_append, List.map_cons, List.nodup_append] at nd
        exact nd.2.2 e.1 m e.1 (List.mem_cons_self ..) rfl
      show A.foldl _ (putM acc e.1 e.2) = _
      have : putM acc e.1 e.2 = acc ++ [e] := by
        unfold putM
        rw [hn]
        rfl
      rw [this, ih (acc ++ [e]) (by rw [List.append_assoc]; exact nd), List.append_assoc]
      rfl
  have := gen A [] (by simpa using h.nd)
  unfold foldM
  rw [this]
  rfl
theorem sumP_tb {A B : PT} (hA : Tb A) (hB : N4 B) (s : Int) : Tb (sumP A B s) ∧ pol (sumP A B s) = pol A + Pol.con s * pol B := by
  unfold sumP
  rw [foldM_tb hA]
  have gen : ∀ (B m : PT), N4 B → Tb m → Tb (B.foldl (fun m t => putA m t.1 (s * t.2)) m) ∧ pol (B.foldl (fun m t => putA m t.1 (s * t.2)) m) = pol m + Pol.con s * pol B := by
    intro B
    induction B with
    | nil =>
      intro m _ h
      refine ⟨h, ?_⟩
      show pol m = pol m + Pol.con s * Pol.mk []
      have : (Pol.mk [] : Pol) = 0 := Pol.sound fun k => by rw [con_sm, con0]; rfl
      rw [this]
      grind
    | cons b B ih =>
      intro m g h
      have hb := g b (List.mem_cons_self ..)
      obtain ⟨i1, i2⟩ := ih (putA m b.1 (s * b.2)) (fun e he => g e (List.mem_cons_of_mem _ he)) (h.put hb _)
      refine ⟨i1, ?_⟩
      show pol (B.foldl _ (putA m b.1 (s * b.2))) = _
      rw [i2, pol_put h hb]
      have e1 : pol (b :: B) = mon b.1 b.2 + pol B := rfl
      have e2 : mon b.1 (s * b.2) = Pol.con s * mon b.1 b.2 := Pol.sound fun k => by
        rw [row_no]
        show (if _ then _ else _) + 0 = s * ((if _ then _ else _) + 0)
        split
        · show s * b.2 + 0 = s * (b.2 + 0)
          rw [Int.add_zero, Int.add_zero]
        · rw [Int.add_zero, Int.mul_zero]
      rw [e1, e2]
      grind
  exact gen B A hB hA
theorem mulP_tb {A B : PT} (hA : N4 A) (hB : N4 B) : Tb (mulP A B) ∧ pol (mulP A B) = pol A * pol B := by
  have row : ∀ (a : List Int × Int) (B m : PT), Tb m → Tb (mulRow a B m) ∧ pol (mulRow a B m) = pol m + mon a.1 a.2 * pol B := by
    intro a B
    induction B with
    | nil =>
      intro m h
      refine ⟨h, ?_⟩
      show pol m = pol m + mon a.1 a.2 * Pol.mk []
      have : (Pol.mk [] : Pol) = 0 := Pol.sound fun k => by rw [con_sm, con0]; rfl
      rw [this]
      grind
    | cons b B ih =>
      intro m h
      have h4 : (add4 a.1 b.1).length = 4 := rfl
      obtain ⟨i1, i2⟩ := ih (putA m (add4 a.1 b.1) (a.2 * b.2)) (h.put h4 _)
      refine ⟨i1, ?_⟩
      show pol (mulRow a B (putA m (add4 a.1 b.1) (a.2 * b.2))) = _
      rw [i2, pol_put h h4]
      have e1 : pol (b :: B) = mon b.1 b.2 + pol B := rfl
      have e2 : mon (add4 a.1 b.1) (a.2 * b.2) = mon a.1 a.2 * mon b.1 b.2 := rfl
      rw [e1, e2]
      grind
  have gen : ∀ (A m : PT), Tb m → Tb (A.foldl (fun m a => mulRow a B m) m) ∧ pol (A.foldl (fun m a => mulRow a B m) m) = pol m + pol A * pol B := by
    intro A
    induction A with
    | nil =>
      intro m h
      refine ⟨h, ?_⟩
      show pol m = pol m + Pol.mk [] * pol B
      have : (Pol.mk [] : Pol) = 0 := Pol.sound fun k => by rw [con_sm, con0]; rfl
      rw [this]
      grind
    | cons a A ih =>
      intro m h
      obtain ⟨r1, r2⟩ := row a B m h
      obtain ⟨i1, i2⟩ := ih (mulRow a B m) r1
      refine ⟨i1, ?_⟩
      show pol (A.foldl _ (mulRow a B m)) = _
      rw [i2, r2]
      have e1 : pol (a :: A) = mon a.1 a.2 + pol A := rfl
      rw [e1]
      grind
  obtain ⟨g1, g2⟩ := gen A [] Tb.nil
  refine ⟨g1, ?_⟩
  have e0 : pol ([] : PT) = 0 := Pol.sound fun k => by rw [con_sm, con0]; rfl
  show pol (A.foldl _ []) = _
  rw [g2, e0]
  grind
end Lw
set_option Elab.async false
set_option linter.all false
set_option maxRecDepth 100000
set_option maxHeartbeats 1000000
/-! Bounds of tables: boxes of powers, sums of counts. -/
namespace Lw
open BX
def Bx (b : B4) (A : PT) : Prop := ∀ e ∈ A, In b e.1
structure B4.le (x y : B4) : Prop where
  pa : x.a ≤ y.a
  pb : x.b ≤ y.b
  pc : x.c ≤ y.c
  pd : x.d ≤ y.d
theorem perm_sum {l l' : List Nat} (h : l.Perm l') : l.sum = l'.sum := by
  induction h with
  | nil => rfl
  | cons x _ ih => rw [List.sum_cons, List.sum_cons, ih]
  | swap x y l => simp only [List.sum_cons]; omega
  | trans _ _ i1 i2 => exact i1.trans i2
theorem In.mono {b c : B4} (h : b.le c) {k : List Int} (g : In b k) : In c k := by
  obtain ⟨x, y, z, u, e, h1, h2, h3, h4⟩ := g
  exact ⟨x, y, z, u, e, Nat.le_trans h1 h.pa, Nat.le_trans h2 h.pb, Nat.le_trans h3 h.pc, Nat.le_trans h4 h.pd⟩
theorem Bx.mono {b c : B4} (h : b.le c) {A : PT} (g : Bx b A) : Bx c A := fun e he => (g e he).mono h
theorem Bx.n4 {b : B4} {A : PT} (h : Bx b A) : N4 A := fun e he => (h e he).len
theorem Bx.canon {b : B4} {A : PT} (h : Bx b A) : Bx b (BX.canon A) := fun e he => by
  obtain ⟨h1, _⟩ := mem_canon.mp (show (e.1, e.2) ∈ BX.canon A from he)
  obtain ⟨d, hd, e1⟩ := List.mem_map.mp h1
  rw [← e1]
  exact h d hd
theorem put_key {p : List Int → Prop} {m : PT} (h : ∀ e ∈ m, p e.1) {k : List Int} (hk : p k) (a : Int) : ∀ e ∈ putM m k a, p e.1 := by
  unfold putM
  split
  · intro e he
    obtain ⟨e', he', rfl⟩ := List.mem_map.mp he
    split <;> exact h e' he'
  · intro e he
    rcases List.mem_append.mp he with he | he
    · exact h e he
    · rw [List.mem_singleton.mp he]; exact hk
theorem fold_key {α : Type} {p : List Int → Prop} (L : List α) (f : PT → α → PT) (hf : ∀ m x, x ∈ L → (∀ e ∈ m, p e.1) → ∀ e ∈ f m x, p e.1) : ∀ m : PT, (∀ e ∈ m, p e.1) → ∀ e ∈ L.foldl f m, p e.1 := by
  induction L with
  | nil => intro m h; exact h
  | cons x L ih => exact fun m h => ih (fun m y hy => hf m y (List.mem_cons_of_mem _ hy)) (f m x) (hf m x (List.mem_cons_self ..) h)
theorem Bx.sumP {b : B4} {A B : PT} (hA : Bx b A) (hB : Bx b B) (s : Int) : Bx b (BX.sumP A B s) :=
  fold_key (p := In b) B (fun m t => putA m t.1 (s * t.2)) (fun m x hx hm => put_key hm (hB x hx) _) _ (fold_key (p := In b) A (fun acc e => putM acc e.1 e.2) (fun m x hx hm => put_key hm (hA x hx) _) [] fun _ h => by cases h)
theorem Bx.mulP {b c : B4} {A B : PT} (hA : Bx b A) (hB : Bx c B) : Bx (b.add c) (BX.mulP A B) :=
  fold_key (p := In (b.add c)) A (fun m a => mulRow a B m) (fun m a ha hm => fold_key (p := In (b.add c)) B (fun m x => putA m (add4 a.1 x.1) (a.2 * x.2)) (fun m x hx hm => put_key hm ((hA a ha).add (hB x hx)) _) m hm) [] fun _ h => by cases h
/-- the sum of the counts' sizes -/
def l1 (A : PT) : Nat := (A.map fun e => e.2.natAbs).sum
theorem l1_cons (e : List Int × Int) (A : PT) : l1 (e :: A) = e.2.natAbs + l1 A := by unfold l1; simp
theorem l1_mem {A : PT} {e : List Int × Int} (h : e ∈ A) : e.2.natAbs ≤ l1 A := by
  induction A with
  | nil => cases h
  | cons d A ih =>
    rw [l1_cons]
    rcases List.mem_cons.mp h with h | h
    · rw [h]; omega
    · have := ih h; omega
theorem l1_append (A B : PT) : l1 (A ++ B) = l1 A + l1 B := by
  induction A with
  | nil => show l1 B = 0 + l1 B; omega
  | cons e A ih => rw [List.cons_append, l1_cons, l1_cons, ih]; omega
theorem l1_put {m : PT} (nd : (m.map (·.1)).Nodup) (k : List Int) (c : Int) : l1 (putA m k c) ≤ l1 m + c.natAbs := by
  unfold putA putM
  split
  · rename_i h
    have gen : ∀ m : PT, (m.map (·.1)).Nodup → ∀ a : Int, (getM m k).isSome = true → l1 (m.map fun e => if e.1 = k then (e.1, a) else e) + (cf m k).natAbs = l1 m + a.natAbs := by
      intro m
      induction m with
      | nil => intro _ a h; cases h
      | cons e m ih =>
        intro nd a h
        rw [List.map_cons, List.nodup_cons] at nd
        rw [List.map_cons, l1_cons, l1_cons]
        unfold cf
        rw [getM_cons] at h ⊢
        by_cases q : e.1 = k
        · rw [if_pos q, if_pos q]
          have e1 : (m.map fun e => if e.1 = k then (e.1, a) else e) = m := by
            have : ∀ d ∈ m, (if d.1 = k then (d.1, a) else d) = d := fun d hd => by
              rw [if_neg]
              intro z
              exact nd.1 (by rw [q, ← z]; exact List.mem_map_of_mem hd)
            exact (List.map_congr_left this).trans (List.map_id _)
          rw [e1]
          show a.natAbs + l1 m + e.2.natAbs = _
          omega
        · rw [if_neg q, if_neg q]
          rw [if_neg q] at h
          have := ih nd.2 a h
          unfold cf at this
          omega
    have := gen m nd (cf m k + c) h
    have t := Int.natAbs_add_le (cf m k) c
    omega
  · rename_i h
    rw [l1_append, l1_cons]
    have : cf m k = 0 := by
      unfold cf
      cases q : getM m k with
      | none => rfl
      | some x => rw [q] at h; exact absurd rfl h
    rw [this]
    show l1 m + ((0 + c).natAbs + 0) ≤ _
    rw [Int.zero_add]
    omega
theorem l1_sumP {A B : PT} (hA : Tb A) (hB : N4 B) {s : Int} (hs : s.natAbs ≤ 1) : l1 (BX.sumP A B s) ≤ l1 A + l1 B := by
  unfold BX.sumP
  rw [foldM_tb hA]
  have gen : ∀ (B m : PT), N4 B → Tb m → l1 (B.foldl (fun m t => putA m t.1 (s * t.2)) m) ≤ l1 m + l1 B := by
    intro B
    induction B with
    | nil => intro m _ h; exact Nat.le_refl _
    | cons b B ih =>
      intro m g h
      have i := ih (putA m b.1 (s * b.2)) (fun e he => g e (List.mem_cons_of_mem _ he)) (h.put (g b (List.mem_cons_self ..)) _)
      have p := l1_put h.nd b.1 (s * b.2)
      rw [l1_cons]
      have : (s * b.2).natAbs ≤ b.2.natAbs := by
        rw [Int.natAbs_mul]
        have := Nat.mul_le_mul_right b.2.natAbs hs
        omega
      show l1 (B.foldl _ (putA m b.1 (s * b.2))) ≤ _
      omega
  exact gen B A hB hA
theorem l1_mulP {A B : PT} : l1 (BX.mulP A B) ≤ l1 A * l1 B := by
  have row : ∀ (a : List Int × Int) (B m : PT), Tb m → Tb (mulRow a B m) ∧ l1 (mulRow a B m) ≤ l1 m + a.2.natAbs * l1 B := by
    intro a B
    induction B with
    | nil => intro m h; exact ⟨h, Nat.le_add_right _ _⟩
    | cons b B ih =>
      intro m h
      obtain ⟨i1, i2⟩ := ih (putA m (add4 a.1 b.1) (a.2 * b.2)) (h.put rfl _)
      refine ⟨i1, ?_⟩
      have p := l1_put h.nd (add4 a.1 b.1) (a.2 * b.2)
      rw [Int.natAbs_mul] at p
      rw [l1_cons, Nat.mul_add]
      show l1 (mulRow a B (putA m (add4 a.1 b.1) (a.2 * b.2))) ≤ _
      omega
  have gen : ∀ (A m : PT), Tb m → l1 (A.foldl (fun m a => mulRow a B m) m) ≤ l1 m + l1 A * l1 B := by
    intro A
    induction A with
    | nil => intro m h; exact Nat.le_add_right _ _
    | cons a A ih =>
      intro m h
      obtain ⟨r1, r2⟩ := row a B m h
      have i := ih (mulRow a B m) r1
      rw [l1_cons, Nat.add_mul]
      show l1 (A.foldl _ (mulRow a B m)) ≤ _
      omega
  have := gen A [] Tb.nil
  show l1 (A.foldl _ []) ≤ _
  have e : l1 ([] : PT) = 0 := rfl
  omega
theorem l1_canon {m : PT} (nd : (m.map (·.1)).Nodup) : l1 (BX.canon m) ≤ l1 m := by
  have e1 : ∀ ks : List (List Int), l1 (ks.filterMap (canonF m)) = (ks.map fun k => (cf m k).natAbs).sum := by
    intro ks
    induction ks with
    | nil => rfl
    | cons k ks ih =>
      rw [List.filterMap_cons, List.map_cons, List.sum_cons]
      unfold canonF
      by_cases h : cf m k = 0
      · rw [if_pos h, h]
        show l1 _ = 0 + _
        rw [Nat.zero_add]
        exact ih
      · rw [if_neg h]
        show l1 ((k, cf m k) :: _) = _
        rw [l1_cons]
        exact congrArg (_ + ·) ih
  have e2 : ((m.map (·.1)).map fun k => (cf m k).natAbs) = m.map fun e => e.2.natAbs := by
    rw [List.map_map]
    apply List.map_congr_left
    intro e he
    show (cf m e.1).natAbs = e.2.natAbs
    rw [cf_mem nd (show (e.1, e.2) ∈ m from he)]
  unfold BX.canon
  rw [e1]
  have p : (((m.map (·.1)).mergeSort keyLe).map fun k => (cf m k).natAbs).Perm ((m.map (·.1)).map fun k => (cf m k).natAbs) := (List.mergeSort_perm _ _).map _
  rw [perm_sum p, e2]
  exact Nat.le_refl _
/-- a canonical table in a box with small counts -/
structure PB (b : B4) (n : Nat) (A : PT) : Prop where
  can : Can A
  bx : Bx b A
  l : l1 A ≤ n
theorem PB.tb {b : B4} {n : Nat} {A : PT} (h : PB b n A) : Tb A := ⟨h.can.nd, h.bx.n4⟩
theorem PB.len {b : B4} {n : Nat} {A : PT} (h : PB b n A) : A.length ≤ b.vol := by
  have := box_few (B := b) h.can.nd fun k hk => by
    obtain ⟨e, he, rfl⟩ := List.mem_map.mp hk
    exact h.bx e he
  rw [List.length_map] at this
  exact this
theorem PB.mono {b c : B4} {n m : Nat} {A : PT} (h : PB b n A) (hb : b.le c) (hn : n ≤ m) : PB c m A := ⟨h.can, h.bx.mono hb, Nat.le_trans h.l hn⟩
theorem PB.sum {b : B4} {n m : Nat} {A B : PT} (hA : PB b n A) (hB : PB b m B) {s : Int} (hs : s.natAbs ≤ 1) : PB b (n + m) (BX.canon (BX.sumP A B s)) ∧ pol (BX.canon (BX.sumP A B s)) = pol A + Pol.con s * pol B := by
  obtain ⟨t, p⟩ := sumP_tb hA.tb hB.bx.n4 s
  refine ⟨⟨can_canon t.nd, (hA.bx.sumP hB.bx s).canon, ?_⟩, by rw [pol_canon t, p]⟩
  have h1 := l1_canon t.nd
  have h2 := l1_sumP hA.tb hB.bx.n4 hs
  have := hA.l
  have := hB.l
  omega
theorem PB.mul {b c : B4} {n m : Nat} {A B : PT} (hA : PB b n A) (hB : PB c m B) : PB (b.add c) (n * m) (BX.canon (BX.mulP A B)) ∧ pol (BX.canon (BX.mulP A B)) = pol A * pol B := by
  obtain ⟨t, p⟩ := mulP_tb hA.bx.n4 hB.bx.n4
  refine ⟨⟨can_canon t.nd, (hA.bx.mulP hB.bx).canon, ?_⟩, by rw [pol_canon t, p]⟩
  have h1 := l1_canon t.nd
  have h2 := l1_mulP (A := A) (B := B)
  have h3 := Nat.mul_le_mul hA.l hB.l
  omega
theorem PB.one : PB ⟨0, 0, 0, 0⟩ 1 [([0, 0, 0, 0], 1)] := ⟨⟨List.pairwise_singleton _ _, fun e he => by rw [List.mem_singleton.mp he]; decide⟩, fun e he => by rw [List.mem_singleton.mp he]; exact ⟨0, 0, 0, 0, rfl, by decide, by decide, by decide, by decide⟩, by decide⟩
end Lw
set_option Elab.async false
set_option linter.all false
set_option maxRecDepth 100000
set_option maxHeartbeats 1000000
/-! Powers of tables. -/
namespace Lw
open BX
def tm (A B : PT) : PT := canon (mulP A B)
def one4 : PT := [([0, 0, 0, 0], 1)]
def pwL : Nat → PT → PT → Nat → PT
  | 0, f, _, _ => f
  | g + 1, f, p, n => if n = 0 then f else pwL g (if n % 2 = 1 then tm f p else f) (if 1 < n then tm p p else p) (n / 2)
theorem pwL_fuel : ∀ (g h : Nat) (f p : PT) (n : Nat), n ≤ g → n ≤ h → pwL g f p n = pwL h f p n
  | 0, 0, _, _, _, _, _ => rfl
  | 0, h + 1, f, p, n, hg, _ => by
    have : n = 0 := by omega
    subst this
    rfl
  | g + 1, 0, f, p, n, _, hh => by
    have : n = 0 := by omega
    subst this
    rfl
  | g + 1, h + 1, f, p, n, hg, hh => by
    unfold pwL
    by_cases c : n = 0
    · rw [if_pos c, if_pos c]
    · rw [if_neg c, if_neg c]
      exact pwL_fuel g h _ _ (n / 2) (by omega) (by omega)
theorem pwL_step {f p : PT} {n : Nat} (h : 0 < n) : pwL n f p n = pwL (n / 2) (if n % 2 = 1 then tm f p else f) (if 1 < n then tm p p else p) (n / 2) := by
  cases n with
  | zero => omega
  | succ m =>
    rw [show pwL (m + 1) f p (m + 1) = pwL m (if (m + 1) % 2 = 1 then tm f p else f) (if 1 < m + 1 then tm p p else p) ((m + 1) / 2) from by
      conv => lhs; unfold pwL
      rw [if_neg (by omega)]]
    exact pwL_fuel m ((m + 1) / 2) _ _ _ (by omega) (by omega)
theorem mul_le {i j N : Nat} {b : B4} (h : i + j ≤ N) : ((B4.mul i b).add (B4.mul j b)).le (B4.mul N b) := by
  refine ⟨?_, ?_, ?_, ?_⟩ <;> (show i * _ + j * _ ≤ N * _; rw [← Nat.add_mul]; exact Nat.mul_le_mul_right _ h)
theorem mul_le1 {i N : Nat} {b : B4} (h : i ≤ N) : (B4.mul i b).le (B4.mul N b) := ⟨Nat.mul_le_mul_right _ h, Nat.mul_le_mul_right _ h, Nat.mul_le_mul_right _ h, Nat.mul_le_mul_right _ h⟩
theorem B4.le.refl (b : B4) : b.le b := ⟨Nat.le_refl _, Nat.le_refl _, Nat.le_refl _, Nat.le_refl _⟩
theorem B4.le.trans {a b c : B4} (h : a.le b) (g : b.le c) : a.le c := ⟨Nat.le_trans h.pa g.pa, Nat.le_trans h.pb g.pb, Nat.le_trans h.pc g.pc, Nat.le_trans h.pd g.pd⟩
theorem vol_mono {b c : B4} (h : b.le c) : b.vol ≤ c.vol := Nat.mul_le_mul (Nat.mul_le_mul (Nat.mul_le_mul (Nat.succ_le_succ h.pa) (Nat.succ_le_succ h.pb)) (Nat.succ_le_succ h.pc)) (Nat.succ_le_succ h.pd)
/-- f has at most i factors, p at most j -/
structure PwI (b : B4) (L N i j n : Nat) (f p : PT) : Prop where
  f : PB (B4.mul i b) (L ^ i) f
  p : PB (B4.mul j b) (L ^ j) p
  h : i + j * n ≤ N
  j0 : 0 < j
theorem PwI.mulF {b : B4} {L N i j n : Nat} {f p : PT} (h : PwI b L N i j n f p) (hn : 0 < n) : PB (B4.mul (i + j) b) (L ^ (i + j)) (tm f p) := by
  have := (h.f.mul h.p).1
  refine this.mono (mul_le (Nat.le_refl _)) ?_
  rw [Nat.pow_add]
  exact Nat.le_refl _
theorem PwI.sq {b : B4} {L N i j n : Nat} {f p : PT} (h : PwI b L N i j n f p) : PB (B4.mul (j + j) b) (L ^ (j + j)) (tm p p) := by
  have := (h.p.mul h.p).1
  refine this.mono (mul_le (Nat.le_refl _)) ?_
  rw [Nat.pow_add]
  exact Nat.le_refl _
theorem PwI.step {b : B4} {L N i j n : Nat} {f p : PT} (hL : 0 < L) (h : PwI b L N i j n f p) (hn : 0 < n) : ∃ i' j', PwI b L N i' j' (n / 2) (if n % 2 = 1 then tm f p else f) (if 1 < n then tm p p else p) := by
  have hh := h.h
  by_cases c : n % 2 = 1
  · by_cases d : 1 < n
    · refine ⟨i + j, j + j, by rw [if_pos c]; exact h.mulF hn, by rw [if_pos d]; exact h.sq, ?_, by have := h.j0; omega⟩
      have e : n = 2 * (n / 2) + 1 := by omega
      have : (j + j) * (n / 2) = j * (2 * (n / 2)) := by rw [← Nat.two_mul, Nat.mul_comm 2 j, Nat.mul_assoc]
      have e2 : j * n = j * (2 * (n / 2)) + j := by rw [← Nat.mul_succ]; exact congrArg (j * ·) e
      omega
    · refine ⟨i + j, j, by rw [if_pos c]; exact h.mulF hn, by rw [if_neg d]; exact h.p, ?_, h.j0⟩
      have e : n = 1 := by omega
      subst e
      simp at hh ⊢
      omega
  · by_cases d : 1 < n
    · refine ⟨i, j + j, by rw [if_neg c]; exact h.f, by rw [if_pos d]; exact h.sq, ?_, by have := h.j0; omega⟩
      have e : n = 2 * (n / 2) := by omega
      have : (j + j) * (n / 2) = j * (2 * (n / 2)) := by rw [← Nat.two_mul, Nat.mul_comm 2 j, Nat.mul_assoc]
      have e2 : j * n = j * (2 * (n / 2)) := congrArg (j * ·) e
      omega
    · omega
theorem pol_one : pol one4 = 1 := rfl
theorem pow_mul (x : Pol) (n : Nat) : (x * x) ^ n = x ^ (2 * n) := by
  induction n with
  | zero => rfl
  | succ n ih =>
    rw [show 2 * (n + 1) = 2 * n + 1 + 1 from rfl]
    show (x * x) ^ n * (x * x) = x ^ (2 * n) * x * x
    rw [ih]
    grind
theorem pwL_ok {b : B4} {L N : Nat} (hL : 0 < L) : ∀ (n : Nat) (f p : PT) (i j : Nat), PwI b L N i j n f p → PB (B4.mul N b) (L ^ N) (pwL n f p n) ∧ pol (pwL n f p n) = pol f * pol p ^ n := by
  intro n
  induction n using Nat.strongRecOn with
  | _ n ih =>
    intro f p i j h
    by_cases c : n = 0
    · subst c
      refine ⟨h.f.mono (mul_le1 (by have := h.h; omega)) (Nat.pow_le_pow_right hL (by have := h.h; omega)), ?_⟩
      show pol f = pol f * 1
      grind
    · have hn : 0 < n := by omega
      obtain ⟨i', j', h'⟩ := h.step hL hn
      obtain ⟨q1, q2⟩ := ih (n / 2) (by omega) _ _ i' j' h'
      rw [pwL_step hn]
      refine ⟨q1, q2.trans ?_⟩
      have e1 : pol (tm f p) = pol f * pol p := (h.f.mul h.p).2
      have e2 : pol (tm p p) = pol p * pol p := (h.p.mul h.p).2
      by_cases d : 1 < n
      · rw [if_pos d, e2, pow_mul]
        by_cases c2 : n % 2 = 1
        · rw [if_pos c2, e1]
          have : n = 2 * (n / 2) + 1 := by omega
          conv => rhs; rw [this]
          show _ = _ * (pol p ^ (2 * (n / 2)) * pol p)
          grind
        · rw [if_neg c2]
          have : n = 2 * (n / 2) := by omega
          conv => rhs; rw [this]
      · have e : n = 1 := by omega
        subst e
        rw [if_neg d, if_pos (by decide), e1]
        show pol f * pol p * 1 = pol f * (1 * pol p)
        grind
theorem pw0 {b : B4} {L n : Nat} {B : PT} (h : PB b L B) (hL : 0 < L) : PwI b L n 0 1 n one4 B := ⟨PB.one.mono ⟨Nat.zero_le _, Nat.zero_le _, Nat.zero_le _, Nat.zero_le _⟩ (Nat.le_refl _), h.mono (by refine ⟨?_, ?_, ?_, ?_⟩ <;> (show _ ≤ 1 * _; omega)) (by rw [Nat.pow_one]; exact Nat.le_refl _), by omega, by decide⟩
end Lw
set_option Elab.async false
set_option linter.all false
set_option maxRecDepth 100000
set_option maxHeartbeats 1000000
namespace Lw
open PySem PySem.Spec PyProof.Rows L2 BX
/-! tables of the law: in any order, no count 0 -/
theorem nz_perm (m : PT) : (nz m).Perm (canon m) := by
  unfold nz canon
  exact ((List.mergeSort_perm _ _).filterMap _).symm
theorem cf_perm {A B : PT} (nA : (A.map (·.1)).Nodup) (p : A.Perm B) (k : List Int) : cf A k = cf B k := by
  have nB : (B.map (·.1)).Nodup := (p.map _).nodup_iff.mp nA
  by_cases h : k ∈ A.map (·.1)
  · obtain ⟨e, he, rfl⟩ := List.mem_map.mp h
    rw [cf_mem nA (c := e.2) he, cf_mem nB (c := e.2) (p.mem_iff.mp he)]
  · have h' : k ∉ B.map (·.1) := fun z => h ((p.map _).mem_iff.mpr z)
    rw [cf_none h, cf_none h']
theorem l1_perm {A B : PT} (p : A.Perm B) : l1 A = l1 B := perm_sum (p.map _)
/-- what is known of a table of the law -/
structure LB (b : B4) (n : Nat) (A : PT) : Prop where
  nd : (A.map (·.1)).Nodup
  nz : ∀ e ∈ A, e.2 ≠ 0
  bx : Bx b A
  l : l1 A ≤ n
theorem LB.tb {b : B4} {n : Nat} {A : PT} (h : LB b n A) : Tb A := ⟨h.nd, h.bx.n4⟩
theorem LB.len {b : B4} {n : Nat} {A : PT} (h : LB b n A) : A.length ≤ b.vol := by
  have := box_few (B := b) h.nd fun k hk => by
    obtain ⟨e, he, rfl⟩ := List.mem_map.mp hk
    exact h.bx e he
  rw [List.length_map] at this
  exact this
theorem LB.mono {b c : B4} {n m : Nat} {A : PT} (h : LB b n A) (hb : b.le c) (hn : n ≤ m) : LB c m A := ⟨h.nd, h.nz, h.bx.mono hb, Nat.le_trans h.l hn⟩
theorem LB.nil (b : B4) (n : Nat) : LB b n [] := ⟨List.nodup_nil, fun _ h => (nomatch h), fun _ h => (nomatch h), Nat.zero_le n⟩
theorem LB.pb {b : B4} {n : Nat} {A : PT} (h : LB b n A) : PB b n (canon A) ∧ pol (canon A) = pol A := ⟨⟨can_canon h.nd, h.bx.canon, Nat.le_trans (l1_canon h.nd) h.l⟩, pol_canon h.tb⟩
theorem PB.lb {b : B4} {n : Nat} {A : PT} (h : PB b n A) : LB b n A := ⟨h.can.nd, h.can.2, h.bx, h.l⟩
theorem lb_perm {b : B4} {n : Nat} {A B : PT} (p : A.Perm B) (h : LB b n A) : LB b n B := ⟨(p.map _).nodup_iff.mp h.nd, fun e he => h.nz e (p.mem_iff.mpr he), fun e he => h.bx e (p.mem_iff.mpr he), by rw [← l1_perm p]; exact h.l⟩
theorem pol_perm {b : B4} {n : Nat} {A B : PT} (p : A.Perm B) (h : LB b n A) : pol A = pol B := Pol.sound fun x => by
  rw [sm_cf h.tb x, sm_cf (lb_perm p h).tb x, cf_perm h.nd p]
theorem nz_lb {b : B4} {n : Nat} {m : PT} (nd : (m.map (·.1)).Nodup) (hb : Bx b m) (hl : l1 m ≤ n) : LB b n (nz m) ∧ pol (nz m) = pol m := by
  have c : PB b n (canon m) := ⟨can_canon nd, hb.canon, Nat.le_trans (l1_canon nd) hl⟩
  have q := lb_perm (nz_perm m).symm c.lb
  exact ⟨q, by rw [pol_perm (nz_perm m) q, pol_canon ⟨nd, hb.n4⟩]⟩
theorem LB.sum {b : B4} {n m : Nat} {A B : PT} (hA : LB b n A) (hB : LB b m B) {s : Int} (hs : s.natAbs ≤ 1) : LB b (n + m) (BX.nz (BX.sumP A B s)) ∧ pol (BX.nz (BX.sumP A B s)) = pol A + Pol.con s * pol B := by
  obtain ⟨t, p⟩ := sumP_tb hA.tb hB.bx.n4 s
  have h2 := l1_sumP hA.tb hB.bx.n4 hs
  have := hA.l
  have := hB.l
  obtain ⟨q, r⟩ := nz_lb t.nd (hA.bx.sumP hB.bx s) (n := n + m) (by omega)
  exact ⟨q, by rw [r, p]⟩
theorem LB.mul {b c : B4} {n m : Nat} {A B : PT} (hA : LB b n A) (hB : LB c m B) : LB (b.add c) (n * m) (BX.nz (BX.mulP A B)) ∧ pol (BX.nz (BX.mulP A B)) = pol A * pol B := by
  obtain ⟨t, p⟩ := mulP_tb hA.bx.n4 hB.bx.n4
  have h2 := l1_mulP (A := A) (B := B)
  have h3 := Nat.mul_le_mul hA.l hB.l
  obtain ⟨q, r⟩ := nz_lb t.nd (hA.bx.mulP hB.bx) (n := n * m) (by omega)
  exact ⟨q, by rw [r, p]⟩
/-- equal tables -/
theorem lb_eq {b c : B4} {n m : Nat} {A B : PT} (hA : LB b n A) (hB : LB c m B) (h : pol A = pol B) : A.length = B.length ∧ ∀ e ∈ A, getM B e.1 = some e.2 := by
  have hc : canon A = canon B := can_pol hA.pb.1.can hA.pb.1.bx.n4 hB.pb.1.can hB.pb.1.bx.n4 (by rw [hA.pb.2, hB.pb.2, h])
  have self : ∀ {b : B4} {n : Nat} {X : PT}, LB b n X → BX.nz X = X := fun {b n X} hX => by
    unfold BX.nz
    rw [List.filterMap_map]
    have : ∀ Y : PT, (∀ e ∈ Y, e ∈ X) → Y.filterMap (canonF X ∘ fun e => e.1) = Y := by
      intro Y
      induction Y with
      | nil => intro _; rfl
      | cons e Y ih =>
        intro hY
        have he := hY e (List.mem_cons_self ..)
        have hcf : cf X e.1 = e.2 := cf_mem hX.nd (c := e.2) he
        rw [List.filterMap_cons_some (b := e), ih fun d hd => hY d (List.mem_cons_of_mem _ hd)]
        show canonF X e.1 = some e
        unfold canonF
        rw [hcf, if_neg (hX.nz e he)]
    exact this X fun _ h => h
  have pA := nz_perm A
  have pB := nz_perm B
  rw [self hA] at pA
  rw [self hB, ← hc] at pB
  have p : A.Perm B := pA.trans pB.symm
  exact ⟨p.length_eq, fun e he => getM_mem hB.nd (p.mem_iff.mp he)⟩
def scP (s : Int) (B : PT) : PT := B.map fun t => (t.1, s * t.2)
theorem sumP_sc (A B : PT) (s : Int) : sumP A B s = sumP A (scP s B) 1 := by
  unfold sumP scP
  rw [List.foldl_map]
  congr 1
  funext m t
  rw [Int.one_mul]
theorem l1_sc (s : Int) (B : PT) : l1 (scP s B) = s.natAbs * l1 B := by
  unfold scP
  induction B with
  | nil => rfl
  | cons t B ih =>
    rw [List.map_cons, l1_cons, l1_cons, ih, Nat.mul_add, Int.natAbs_mul]
theorem LB.sumS {b : B4} {n m : Nat} {A B : PT} (hA : LB b n A) (hB : LB b m B) (s : Int) : LB b (n + s.natAbs * m) (BX.nz (BX.sumP A B s)) := by
  rw [sumP_sc]
  have hb : Bx b (scP s B) := fun e he => by
    obtain ⟨t, ht, rfl⟩ := List.mem_map.mp he
    exact hB.bx t ht
  obtain ⟨t, p⟩ := sumP_tb hA.tb hb.n4 1
  have h2 := l1_sumP hA.tb hb.n4 (s := 1) (by decide)
  rw [l1_sc] at h2
  have := hA.l
  have := Nat.mul_le_mul_left s.natAbs hB.l
  exact (nz_lb t.nd (hA.bx.sumP hb 1) (n := n + s.natAbs * m) (by omega)).1
end Lw
set_option Elab.async false
set_option linter.all false
set_option maxRecDepth 100000
set_option maxHeartbeats 1000000
namespace Lw
open PySem PySem.Spec PyProof.Rows L2 BX
def top (i : Nat) : Stmt := PySem.Challenge.pw_boxedroots_k01_whole_sums_products_power.main.body.getD i (.Pass ⟨0, 0, 0, 0⟩)
abbrev s_is_integer : Stmt := top 10
abbrev s_is_within : Stmt := top 11
abbrev s_check_number : Stmt := top 12
abbrev s_check_unknown : Stmt := top 13
abbrev s_check_integer : Stmt := top 14
abbrev s_divisor_of : Stmt := top 18
abbrev s_fraction : Stmt := top 19
abbrev s_is_fraction : Stmt := top 20
abbrev s_added : Stmt := top 21
abbrev s_multiplied : Stmt := top 22
abbrev s_raised : Stmt := top 23
abbrev s_is_term : Stmt := top 28
abbrev s_Poly_init : Stmt := inClass (top 29) 0
abbrev s_Poly_eq : Stmt := inClass (top 29) 1
abbrev s_RawPoly_init : Stmt := inClass (top 30) 0
abbrev s_poly_from : Stmt := top 31
abbrev s_constant : Stmt := top 32
abbrev s_number_poly : Stmt := top 33
abbrev s_powers_of : Stmt := top 34
abbrev s_unknown_power : Stmt := top 35
abbrev s_unknown_poly : Stmt := top 36
abbrev s_sum_with : Stmt := top 37
abbrev s_plus : Stmt := top 38
abbrev s_minus : Stmt := top 39
abbrev s_times : Stmt := top 40
abbrev s_power_of : Stmt := top 41
abbrev s_power : Stmt := top 42
abbrev s_top : Stmt := top 43
abbrev s_degree_by : Stmt := top 44
abbrev s_degree : Stmt := top 45
abbrev s_without : Stmt := top 46
abbrev s_counts_by : Stmt := top 47
abbrev s_lead_by : Stmt := top 48
abbrev s_lead : Stmt := top 49
abbrev s_slope_by : Stmt := top 50
abbrev s_slope : Stmt := top 51
abbrev s_worth_at : Stmt := top 52
abbrev s_worth : Stmt := top 53
abbrev s_exchanged : Stmt := top 54
abbrev s_is_in : Stmt := top 55
abbrev s_is_poly_in : Stmt := top 56
abbrev s_check_polys : Stmt := top 60
abbrev s_System_init : Stmt := inClass (top 61) 0
abbrev s_is_point : Stmt := top 62
abbrev s_whole_point : Stmt := top 63
abbrev s_is_root_of : Stmt := top 64
abbrev s_is_root : Stmt := top 65
abbrev s_L_hand : Stmt := top 67
abbrev s_L_draw : Stmt := top 68
abbrev s_L_any : Stmt := top 69
abbrev s_L_num : Stmt := top 70
abbrev s_L_var : Stmt := top 71
abbrev s_L_plus : Stmt := top 72
abbrev s_L_times : Stmt := top 73
abbrev s_L_power : Stmt := top 74
abbrev s_L_mark : Stmt := top 75
abbrev s_L_is_marked : Stmt := top 76
abbrev s_L_degree : Stmt := top 77
abbrev s_L_top : Stmt := top 78
abbrev s_L_lead : Stmt := top 79
abbrev s_L_slope : Stmt := top 80
abbrev s_L_low : Stmt := top 81
abbrev s_L_worth : Stmt := top 82
abbrev s_L_some : Stmt := top 83
abbrev s_L_packed : Stmt := top 84
abbrev s_L_unpacked : Stmt := top 85
abbrev s_L_is_poly : Stmt := top 86
abbrev s_L_exchanged : Stmt := top 87
abbrev s_L_are_sums_right : Stmt := top 88
abbrev s_L_are_parts_right : Stmt := top 89
abbrev s_L_is_worth_right : Stmt := top 90
abbrev s_L_great : Stmt := top 91
abbrev s_L_are_great_right : Stmt := top 92
abbrev s_law : Stmt := top 93
structure Txt (K : PySem.W.Frag) (mg : Str → Option Value) : Prop where
  b_len : mg "len" = none
  b_isinstance : mg "isinstance" = none
  b_int : mg "int" = none
  b_abs : mg "abs" = none
  b_range : mg "range" = none
  b_sorted : mg "sorted" = none
  b_tuple : mg "tuple" = none
  b_list : mg "list" = none
  b_dict : mg "dict" = none
  b_max : mg "max" = none
  b_any : mg "any" = none
  b_all : mg "all" = none
  b_enumerate : mg "enumerate" = none
  b_zip : mg "zip" = none
  b_bool : mg "bool" = none
  g_is_integer : mg "is_integer" = some (.ref (He.ga K "is_integer"))
  g_is_within : mg "is_within" = some (.ref (He.ga K "is_within"))
  g_check_number : mg "check_number" = some (.ref (He.ga K "check_number"))
  g_check_unknown : mg "check_unknown" = some (.ref (He.ga K "check_unknown"))
  g_check_integer : mg "check_integer" = some (.ref (He.ga K "check_integer"))
  g_divisor_of : mg "divisor_of" = some (.ref (He.ga K "divisor_of"))
  g_fraction : mg "fraction" = some (.ref (He.ga K "fraction"))
  g_is_fraction : mg "is_fraction" = some (.ref (He.ga K "is_fraction"))
  g_added : mg "added" = some (.ref (He.ga K "added"))
  g_multiplied : mg "multiplied" = some (.ref (He.ga K "multiplied"))
  g_raised : mg "raised" = some (.ref (He.ga K "raised"))
  g_is_term : mg "is_term" = some (.ref (He.ga K "is_term"))
  g_poly_from : mg "poly_from" = some (.ref (He.ga K "poly_from"))
  g_constant : mg "constant" = some (.ref (He.ga K "constant"))
  g_number_poly : mg "number_poly" = some (.ref (He.ga K "number_poly"))
  g_powers_of : mg "powers_of" = some (.ref (He.ga K "powers_of"))
  g_unknown_power : mg "unknown_power" = some (.ref (He.ga K "unknown_power"))
  g_unknown_poly : mg "unknown_poly" = some (.ref (He.ga K "unknown_poly"))
  g_sum_with : mg "sum_with" = some (.ref (He.ga K "sum_with"))
  g_plus : mg "plus" = some (.ref (He.ga K "plus"))
  g_minus : mg "minus" = some (.ref (He.ga K "minus"))
  g_times : mg "times" = some (.ref (He.ga K "times"))
  g_power_of : mg "power_of" = some (.ref (He.ga K "power_of"))
  g_power : mg "power" = some (.ref (He.ga K "power"))
  g_top : mg "top" = some (.ref (He.ga K "top"))
  g_degree_by : mg "degree_by" = some (.ref (He.ga K "degree_by"))
  g_degree : mg "degree" = some (.ref (He.ga K "degree"))
  g_without : mg "without" = some (.ref (He.ga K "without"))
  g_counts_by : mg "counts_by" = some (.ref (He.ga K "counts_by"))
  g_lead_by : mg "lead_by" = some (.ref (He.ga K "lead_by"))
  g_lead : mg "lead" = some (.ref (He.ga K "lead"))
  g_slope_by : mg "slope_by" = some (.ref (He.ga K "slope_by"))
  g_slope : mg "slope" = some (.ref (He.ga K "slope"))
  g_worth_at : mg "worth_at" = some (.ref (He.ga K "worth_at"))
  g_worth : mg "worth" = some (.ref (He.ga K "worth"))
  g_exchanged : mg "exchanged" = some (.ref (He.ga K "exchanged"))
  g_is_in : mg "is_in" = some (.ref (He.ga K "is_in"))
  g_is_poly_in : mg "is_poly_in" = some (.ref (He.ga K "is_poly_in"))
  g_check_polys : mg "check_polys" = some (.ref (He.ga K "check_polys"))
  g_is_point : mg "is_point" = some (.ref (He.ga K "is_point"))
  g_whole_point : mg "whole_point" = some (.ref (He.ga K "whole_point"))
  g_is_root_of : mg "is_root_of" = some (.ref (He.ga K "is_root_of"))
  g_is_root : mg "is_root" = some (.ref (He.ga K "is_root"))
  g_L_hand : mg "_law_hand" = some (.ref (He.ga K "_law_hand"))
  g_L_draw : mg "_law_draw" = some (.ref (He.ga K "_law_draw"))
  g_L_any : mg "_law_any" = some (.ref (He.ga K "_law_any"))
  g_L_num : mg "_law_num" = some (.ref (He.ga K "_law_num"))
  g_L_var : mg "_law_var" = some (.ref (He.ga K "_law_var"))
  g_L_plus : mg "_law_plus" = some (.ref (He.ga K "_law_plus"))
  g_L_times : mg "_law_times" = some (.ref (He.ga K "_law_times"))
  g_L_power : mg "_law_power" = some (.ref (He.ga K "_law_power"))
  g_L_mark : mg "_law_mark" = some (.ref (He.ga K "_law_mark"))
  g_L_is_marked : mg "_law_is_marked" = some (.ref (He.ga K "_law_is_marked"))
  g_L_degree : mg "_law_degree" = some (.ref (He.ga K "_law_degree"))
  g_L_top : mg "_law_top" = some (.ref (He.ga K "_law_top"))
  g_L_lead : mg "_law_lead" = some (.ref (He.ga K "_law_lead"))
  g_L_slope : mg "_law_slope" = some (.ref (He.ga K "_law_slope"))
  g_L_low : mg "_law_low" = some (.ref (He.ga K "_law_low"))
  g_L_worth : mg "_law_worth" = some (.ref (He.ga K "_law_worth"))
  g_L_some : mg "_law_some" = some (.ref (He.ga K "_law_some"))
  g_L_packed : mg "_law_packed" = some (.ref (He.ga K "_law_packed"))
  g_L_unpacked : mg "_law_unpacked" = some (.ref (He.ga K "_law_unpacked"))
  g_L_is_poly : mg "_law_is_poly" = some (.ref (He.ga K "_law_is_poly"))
  g_L_exchanged : mg "_law_exchanged" = some (.ref (He.ga K "_law_exchanged"))
  g_L_are_sums_right : mg "_law_are_sums_right" = some (.ref (He.ga K "_law_are_sums_right"))
  g_L_are_parts_right : mg "_law_are_parts_right" = some (.ref (He.ga K "_law_are_parts_right"))
  g_L_is_worth_right : mg "_law_is_worth_right" = some (.ref (He.ga K "_law_is_worth_right"))
  g_L_great : mg "_law_great" = some (.ref (He.ga K "_law_great"))
  g_L_are_great_right : mg "_law_are_great_right" = some (.ref (He.ga K "_law_are_great_right"))
  g_law : mg "law" = some (.ref (He.ga K "law"))
  c_UNKNOWNS : ∃ t, mg "UNKNOWNS" = some (.int 4 t)
  c_ZERO : mg "ZERO" = some (.ref (He.ga K "ZERO"))
  c_ONE : mg "ONE" = some (.ref (He.ga K "ONE"))
  c_MOST_TERMS : ∃ t, mg "MOST_TERMS" = some (.int 300 t)
  c_MOST_POWER : ∃ t, mg "MOST_POWER" = some (.int 60 t)
  c_NO_POWERS : mg "NO_POWERS" = some (.ref (He.ga K "NO_POWERS"))
  c_MOST_UNKNOWNS : ∃ t, mg "MOST_UNKNOWNS" = some (.int 3 t)
  c_MOST_POLYS : ∃ t, mg "MOST_POLYS" = some (.int 6 t)
  c_Poly : mg "Poly" = some (.ref (He.ga K "Poly"))
  m_Poly : Mk K (He.ga K "Poly") (He.ma K (He.ga K "Poly") "__init__")
  cl_Poly : Cls K (He.ga K "Poly")
  c_RawPoly : mg "RawPoly" = some (.ref (He.ga K "RawPoly"))
  m_RawPoly : Mk K (He.ga K "RawPoly") (He.ma K (He.ga K "RawPoly") "__init__")
  cl_RawPoly : Cls K (He.ga K "RawPoly")
  c_System : mg "System" = some (.ref (He.ga K "System"))
  m_System : Mk K (He.ga K "System") (He.ma K (He.ga K "System") "__init__")
  cl_System : Cls K (He.ga K "System")
theorem sc_is_integer : FnScope ["thing"] ["thing"] (defScope s_is_integer) := ⟨rfl, rfl, rfl, by decide +kernel, rfl, by decide +kernel, by decide +kernel⟩
theorem sc_is_within : FnScope ["thing", "least", "most"] ["thing", "least", "most"] (defScope s_is_within) := ⟨rfl, rfl, rfl, by decide +kernel, rfl, by decide +kernel, by decide +kernel⟩
theorem sc_check_number : FnScope ["thing", "least", "most"] ["thing", "least", "most"] (defScope s_check_number) := ⟨rfl, rfl, rfl, by decide +kernel, rfl, by decide +kernel, by decide +kernel⟩
theorem sc_check_unknown : FnScope ["thing"] ["thing"] (defScope s_check_unknown) := ⟨rfl, rfl, rfl, by decide +kernel, rfl, by decide +kernel, by decide +kernel⟩
theorem sc_check_integer : FnScope ["thing"] ["thing"] (defScope s_check_integer) := ⟨rfl, rfl, rfl, by decide +kernel, rfl, by decide +kernel, by decide +kernel⟩
theorem sc_divisor_of : FnScope ["one", "other"] ["one", "other"] (defScope s_divisor_of) := ⟨rfl, rfl, rfl, by decide +kernel, rfl, by decide +kernel, by decide +kernel⟩
theorem sc_fraction : FnScope ["top", "bottom", "by"] ["top", "bottom"] (defScope s_fraction) := ⟨rfl, rfl, rfl, by decide +kernel, rfl, by decide +kernel, by decide +kernel⟩
theorem sc_is_fraction : FnScope ["thing"] ["thing"] (defScope s_is_fraction) := ⟨rfl, rfl, rfl, by decide +kernel, rfl, by decide +kernel, by decide +kernel⟩
theorem sc_added : FnScope ["one", "other"] ["one", "other"] (defScope s_added) := ⟨rfl, rfl, rfl, by decide +kernel, rfl, by decide +kernel, by decide +kernel⟩
theorem sc_multiplied : FnScope ["one", "other"] ["one", "other"] (defScope s_multiplied) := ⟨rfl, rfl, rfl, by decide +kernel, rfl, by decide +kernel, by decide +kernel⟩
theorem sc_raised : FnScope ["number", "many", "found", "turn"] ["number", "many"] (defScope s_raised) := ⟨rfl, rfl, rfl, by decide +kernel, rfl, by decide +kernel, by decide +kernel⟩
theorem sc_is_term : FnScope ["thing", "power"] ["thing"] (defScope s_is_term) := ⟨rfl, rfl, rfl, by decide +kernel, rfl, by decide +kernel, by decide +kernel⟩
theorem sc_Poly_init : FnScope ["self", "terms", "index", "term"] ["self", "terms"] (defScope s_Poly_init) := ⟨rfl, rfl, rfl, by decide +kernel, rfl, by decide +kernel, by decide +kernel⟩
theorem sc_Poly_eq : FnScope ["self", "other"] ["self", "other"] (defScope s_Poly_eq) := ⟨rfl, rfl, rfl, by decide +kernel, rfl, by decide +kernel, by decide +kernel⟩
theorem sc_RawPoly_init : FnScope ["self", "terms"] ["self", "terms"] (defScope s_RawPoly_init) := ⟨rfl, rfl, rfl, by decide +kernel, rfl, by decide +kernel, by decide +kernel⟩
theorem sc_poly_from : FnScope ["parts", "powers"] ["parts"] (defScope s_poly_from) := ⟨rfl, rfl, rfl, by decide +kernel, rfl, by decide +kernel, by decide +kernel⟩
theorem sc_constant : FnScope ["number"] ["number"] (defScope s_constant) := ⟨rfl, rfl, rfl, by decide +kernel, rfl, by decide +kernel, by decide +kernel⟩
theorem sc_number_poly : FnScope ["number"] ["number"] (defScope s_number_poly) := ⟨rfl, rfl, rfl, by decide +kernel, rfl, by decide +kernel, by decide +kernel⟩
theorem sc_powers_of : FnScope ["k", "many", "other"] ["k", "many"] (defScope s_powers_of) := ⟨rfl, rfl, rfl, by decide +kernel, rfl, by decide +kernel, by decide +kernel⟩
theorem sc_unknown_power : FnScope ["k", "many"] ["k", "many"] (defScope s_unknown_power) := ⟨rfl, rfl, rfl, by decide +kernel, rfl, by decide +kernel, by decide +kernel⟩
theorem sc_unknown_poly : FnScope ["k"] ["k"] (defScope s_unknown_poly) := ⟨rfl, rfl, rfl, by decide +kernel, rfl, by decide +kernel, by decide +kernel⟩
theorem sc_sum_with : FnScope ["one", "other", "by", "parts", "powers", "count"] ["one", "other", "by"] (defScope s_sum_with) := ⟨rfl, rfl, rfl, by decide +kernel, rfl, by decide +kernel, by decide +kernel⟩
theorem sc_plus : FnScope ["one", "other"] ["one", "other"] (defScope s_plus) := ⟨rfl, rfl, rfl, by decide +kernel, rfl, by decide +kernel, by decide +kernel⟩
theorem sc_minus : FnScope ["one", "other"] ["one", "other"] (defScope s_minus) := ⟨rfl, rfl, rfl, by decide +kernel, rfl, by decide +kernel, by decide +kernel⟩
theorem sc_times : FnScope ["one", "other", "parts", "here", "count", "there", "many", "powers"] ["one", "other"] (defScope s_times) := ⟨rfl, rfl, rfl, by decide +kernel, rfl, by decide +kernel, by decide +kernel⟩
theorem sc_power_of : FnScope ["poly", "many", "found"] ["poly", "many"] (defScope s_power_of) := ⟨rfl, rfl, rfl, by decide +kernel, rfl, by decide +kernel, by decide +kernel⟩
theorem sc_power : FnScope ["poly", "many"] ["poly", "many"] (defScope s_power) := ⟨rfl, rfl, rfl, by decide +kernel, rfl, by decide +kernel, by decide +kernel⟩
theorem sc_top : FnScope ["poly", "found", "k", "powers", "count"] ["poly"] (defScope s_top) := ⟨rfl, rfl, rfl, by decide +kernel, rfl, by decide +kernel, by decide +kernel⟩
theorem sc_degree_by : FnScope ["poly", "k", "powers", "count"] ["poly", "k"] (defScope s_degree_by) := ⟨rfl, rfl, rfl, by decide +kernel, rfl, by decide +kernel, by decide +kernel⟩
theorem sc_degree : FnScope ["poly", "k"] ["poly", "k"] (defScope s_degree) := ⟨rfl, rfl, rfl, by decide +kernel, rfl, by decide +kernel, by decide +kernel⟩
theorem sc_without : FnScope ["powers", "k"] ["powers", "k"] (defScope s_without) := ⟨rfl, rfl, rfl, by decide +kernel, rfl, by decide +kernel, by decide +kernel⟩
theorem sc_counts_by : FnScope ["poly", "k", "found", "powers", "count", "power_here", "parts"] ["poly", "k"] (defScope s_counts_by) := ⟨rfl, rfl, rfl, by decide +kernel, rfl, by decide +kernel, by decide +kernel⟩
theorem sc_lead_by : FnScope ["poly", "k"] ["poly", "k"] (defScope s_lead_by) := ⟨rfl, rfl, rfl, by decide +kernel, rfl, by decide +kernel, by decide +kernel⟩
theorem sc_lead : FnScope ["poly", "k"] ["poly", "k"] (defScope s_lead) := ⟨rfl, rfl, rfl, by decide +kernel, rfl, by decide +kernel, by decide +kernel⟩
theorem sc_slope_by : FnScope ["poly", "k", "parts", "powers", "count"] ["poly", "k"] (defScope s_slope_by) := ⟨rfl, rfl, rfl, by decide +kernel, rfl, by decide +kernel, by decide +kernel⟩
theorem sc_slope : FnScope ["poly", "k"] ["poly", "k"] (defScope s_slope) := ⟨rfl, rfl, rfl, by decide +kernel, rfl, by decide +kernel, by decide +kernel⟩
theorem sc_worth_at : FnScope ["poly", "point", "found", "powers", "count", "term", "place", "many"] ["poly", "point"] (defScope s_worth_at) := ⟨rfl, rfl, rfl, by decide +kernel, rfl, by decide +kernel, by decide +kernel⟩
theorem sc_worth : FnScope ["poly", "point", "place"] ["poly", "point"] (defScope s_worth) := ⟨rfl, rfl, rfl, by decide +kernel, rfl, by decide +kernel, by decide +kernel⟩
theorem sc_exchanged : FnScope ["poly", "k", "l", "order", "other", "powers", "count"] ["poly", "k", "l"] (defScope s_exchanged) := ⟨rfl, rfl, rfl, by decide +kernel, rfl, by decide +kernel, by decide +kernel⟩
theorem sc_is_in : FnScope ["poly", "many", "powers", "count"] ["poly", "many"] (defScope s_is_in) := ⟨rfl, rfl, rfl, by decide +kernel, rfl, by decide +kernel, by decide +kernel⟩
theorem sc_is_poly_in : FnScope ["thing", "many"] ["thing", "many"] (defScope s_is_poly_in) := ⟨rfl, rfl, rfl, by decide +kernel, rfl, by decide +kernel, by decide +kernel⟩
theorem sc_check_polys : FnScope ["thing", "many", "one", "all_of_them", "at", "poly"] ["thing", "many", "one", "all_of_them"] (defScope s_check_polys) := ⟨rfl, rfl, rfl, by decide +kernel, rfl, by decide +kernel, by decide +kernel⟩
theorem sc_System_init : FnScope ["self", "many", "equations", "barred"] ["self", "many", "equations", "barred"] (defScope s_System_init) := ⟨rfl, rfl, rfl, by decide +kernel, rfl, by decide +kernel, by decide +kernel⟩
theorem sc_is_point : FnScope ["thing", "many", "place"] ["thing", "many"] (defScope s_is_point) := ⟨rfl, rfl, rfl, by decide +kernel, rfl, by decide +kernel, by decide +kernel⟩
theorem sc_whole_point : FnScope ["point"] ["point"] (defScope s_whole_point) := ⟨rfl, rfl, rfl, by decide +kernel, rfl, by decide +kernel, by decide +kernel⟩
theorem sc_is_root_of : FnScope ["equations", "barred", "point", "whole", "poly"] ["equations", "barred", "point"] (defScope s_is_root_of) := ⟨rfl, rfl, rfl, by decide +kernel, rfl, by decide +kernel, by decide +kernel⟩
theorem sc_is_root : FnScope ["system", "thing"] ["system", "thing"] (defScope s_is_root) := ⟨rfl, rfl, rfl, by decide +kernel, rfl, by decide +kernel, by decide +kernel⟩
theorem sc_L_hand : FnScope ["_law_script", "_law_cells", "_law_cell"] ["_law_script"] (defScope s_L_hand) := ⟨rfl, rfl, rfl, by decide +kernel, rfl, by decide +kernel, by decide +kernel⟩
theorem sc_L_draw : FnScope ["_law_hand_here", "_law_many", "_law_number", "_law_cell", "_law_digit"] ["_law_hand_here", "_law_many"] (defScope s_L_draw) := ⟨rfl, rfl, rfl, by decide +kernel, rfl, by decide +kernel, by decide +kernel⟩
theorem sc_L_any : FnScope ["_law_hand_here", "_law_things"] ["_law_hand_here", "_law_things"] (defScope s_L_any) := ⟨rfl, rfl, rfl, by decide +kernel, rfl, by decide +kernel, by decide +kernel⟩
theorem sc_L_num : FnScope ["_law_number"] ["_law_number"] (defScope s_L_num) := ⟨rfl, rfl, rfl, by decide +kernel, rfl, by decide +kernel, by decide +kernel⟩
theorem sc_L_var : FnScope ["_law_k", "_law_other"] ["_law_k"] (defScope s_L_var) := ⟨rfl, rfl, rfl, by decide +kernel, rfl, by decide +kernel, by decide +kernel⟩
theorem sc_L_plus : FnScope ["_law_one", "_law_other", "_law_by", "_law_found", "_law_powers"] ["_law_one", "_law_other", "_law_by"] (defScope s_L_plus) := ⟨rfl, rfl, rfl, by decide +kernel, rfl, by decide +kernel, by decide +kernel⟩
theorem sc_L_times : FnScope ["_law_one", "_law_other", "_law_found", "_law_here", "_law_there", "_law_powers"] ["_law_one", "_law_other"] (defScope s_L_times) := ⟨rfl, rfl, rfl, by decide +kernel, rfl, by decide +kernel, by decide +kernel⟩
theorem sc_L_power : FnScope ["_law_poly", "_law_many", "_law_found", "_law_turn"] ["_law_poly", "_law_many"] (defScope s_L_power) := ⟨rfl, rfl, rfl, by decide +kernel, rfl, by decide +kernel, by decide +kernel⟩
theorem sc_L_mark : FnScope ["_law_parts"] ["_law_parts"] (defScope s_L_mark) := ⟨rfl, rfl, rfl, by decide +kernel, rfl, by decide +kernel, by decide +kernel⟩
theorem sc_L_is_marked : FnScope ["_law_thing"] ["_law_thing"] (defScope s_L_is_marked) := ⟨rfl, rfl, rfl, by decide +kernel, rfl, by decide +kernel, by decide +kernel⟩
theorem sc_L_degree : FnScope ["_law_poly", "_law_k", "_law_powers"] ["_law_poly", "_law_k"] (defScope s_L_degree) := ⟨rfl, rfl, rfl, by decide +kernel, rfl, by decide +kernel, by decide +kernel⟩
theorem sc_L_top : FnScope ["_law_poly", "_law_found", "_law_k"] ["_law_poly"] (defScope s_L_top) := ⟨rfl, rfl, rfl, by decide +kernel, rfl, by decide +kernel, by decide +kernel⟩
theorem sc_L_lead : FnScope ["_law_poly", "_law_k", "_law_many", "_law_powers"] ["_law_poly", "_law_k"] (defScope s_L_lead) := ⟨rfl, rfl, rfl, by decide +kernel, rfl, by decide +kernel, by decide +kernel⟩
theorem sc_L_slope : FnScope ["_law_poly", "_law_k", "_law_found", "_law_powers"] ["_law_poly", "_law_k"] (defScope s_L_slope) := ⟨rfl, rfl, rfl, by decide +kernel, rfl, by decide +kernel, by decide +kernel⟩
theorem sc_L_low : FnScope ["_law_above", "_law_bottom", "_law_one", "_law_other"] ["_law_above", "_law_bottom"] (defScope s_L_low) := ⟨rfl, rfl, rfl, by decide +kernel, rfl, by decide +kernel, by decide +kernel⟩
theorem sc_L_worth : FnScope ["_law_poly", "_law_point", "_law_above", "_law_bottom", "_law_powers", "_law_one", "_law_other", "_law_k", "_law_turn"] ["_law_poly", "_law_point"] (defScope s_L_worth) := ⟨rfl, rfl, rfl, by decide +kernel, rfl, by decide +kernel, by decide +kernel⟩
theorem sc_L_some : FnScope ["_law_hand_here", "_law_most", "_law_kind", "_law_found", "_law_many", "_law_turn", "_law_powers", "_law_count", "_law_k"] ["_law_hand_here", "_law_most"] (defScope s_L_some) := ⟨rfl, rfl, rfl, by decide +kernel, rfl, by decide +kernel, by decide +kernel⟩
theorem sc_L_packed : FnScope ["_law_thing", "_law_item", "_law_powers"] ["_law_thing"] (defScope s_L_packed) := ⟨rfl, rfl, rfl, by decide +kernel, rfl, by decide +kernel, by decide +kernel⟩
theorem sc_L_unpacked : FnScope ["_law_thing", "_law_item"] ["_law_thing"] (defScope s_L_unpacked) := ⟨rfl, rfl, rfl, by decide +kernel, rfl, by decide +kernel, by decide +kernel⟩
theorem sc_L_is_poly : FnScope ["_law_told", "_law_due", "_law_powers", "_law_count"] ["_law_told", "_law_due"] (defScope s_L_is_poly) := ⟨rfl, rfl, rfl, by decide +kernel, rfl, by decide +kernel, by decide +kernel⟩
theorem sc_L_exchanged : FnScope ["_law_poly", "_law_k", "_law_l", "_law_order", "_law_powers", "_law_other"] ["_law_poly", "_law_k", "_law_l"] (defScope s_L_exchanged) := ⟨rfl, rfl, rfl, by decide +kernel, rfl, by decide +kernel, by decide +kernel⟩
theorem sc_L_are_sums_right : FnScope ["_law_hand_here", "_law_one", "_law_other", "_law_first", "_law_second", "_law_many"] ["_law_hand_here", "_law_one", "_law_other"] (defScope s_L_are_sums_right) := ⟨rfl, rfl, rfl, by decide +kernel, rfl, by decide +kernel, by decide +kernel⟩
theorem sc_L_are_parts_right : FnScope ["_law_hand_here", "_law_one", "_law_whole", "_law_k", "_law_l", "_law_found"] ["_law_hand_here", "_law_one"] (defScope s_L_are_parts_right) := ⟨rfl, rfl, rfl, by decide +kernel, rfl, by decide +kernel, by decide +kernel⟩
theorem sc_L_is_worth_right : FnScope ["_law_hand_here", "_law_one", "_law_other", "_law_point", "_law_k", "_law_first", "_law_second", "_law_told", "_law_due", "_law_far", "_law_bottom"] ["_law_hand_here", "_law_one", "_law_other"] (defScope s_L_is_worth_right) := ⟨rfl, rfl, rfl, by decide +kernel, rfl, by decide +kernel, by decide +kernel⟩
theorem sc_L_great : FnScope ["_law_hand_here", "_law_first", "_law_second", "_law_k", "_law_found", "_law_turn", "_law_some_here", "_law_step", "_law_powers"] ["_law_hand_here"] (defScope s_L_great) := ⟨rfl, rfl, rfl, by decide +kernel, rfl, by decide +kernel, by decide +kernel⟩
theorem sc_L_are_great_right : FnScope ["_law_hand_here", "_law_one", "_law_other", "_law_first", "_law_second", "_law_great_here", "_law_due", "_law_k", "_law_l", "_law_point", "_law_worth_due", "_law_system", "_law_rows", "_law_zero", "_law_flag", "_law_part", "_law_turn"] ["_law_hand_here"] (defScope s_L_are_great_right) := ⟨rfl, rfl, rfl, by decide +kernel, rfl, by decide +kernel, by decide +kernel⟩
theorem sc_law : FnScope ["_law_script", "_law_hand_here", "_law_turn", "_law_one", "_law_other", "_law_number", "_law_k"] ["_law_script"] (defScope s_law) := ⟨rfl, rfl, rfl, by decide +kernel, rfl, by decide +kernel, by decide +kernel⟩
end Lw
set_option Elab.async false
set_option linter.all false
set_option maxRecDepth 100000
set_option maxHeartbeats 1000000
namespace Lw
open PySem PySem.Spec PyProof.Rows L2 BX
abbrev rTms (K : PySem.W.Frag) (ts : PT) : Rel := rTup K (ts.map fun t => rTup K [rKey K t.1, rInt t.2])
abbrev fT : Str := "terms"
def rPT (K : PySem.W.Frag) (C : Addr) (ts : PT) : Rel := rIns C [(fT, rTms K ts)]
abbrev rDI (P : Program) (w : World) (K : PySem.W.Frag) (m : PT) : Rel := rDct P w K (m.map fun e => (e.1, rInt e.2))
def S_is_integer (P : Program) (w : World) (K : PySem.W.Frag) : Spc := fun rs k => ∃ i, rs = [rInt i] ∧ k (rBl true)
def S_is_within (P : Program) (w : World) (K : PySem.W.Frag) : Spc := fun rs k => ∃ i a b, rs = [rInt i, rInt a, rInt b] ∧ k (rBl (decide (a ≤ i) && decide (i ≤ b)))
def S_check_unknown (P : Program) (w : World) (K : PySem.W.Frag) : Spc := fun rs k => ∃ i : Int, rs = [rInt i] ∧ (0 ≤ i ∧ i ≤ 3) ∧ k rNon
theorem k_ii (K : PySem.W.Frag) : PySem.W.kitOne K (.type "int") (.type "int") = some true := kit_ty (by decide +kernel)
theorem k_ib (K : PySem.W.Frag) : PySem.W.kitOne K (.type "int") (.type "bool") = some false := kit_ty (by decide +kernel)
theorem k_tt (K : PySem.W.Frag) : PySem.W.kitOne K (.type "tuple") (.type "tuple") = some true := kit_ty (by decide +kernel)
theorem k_ll (K : PySem.W.Frag) : PySem.W.kitOne K (.type "list") (.type "list") = some true := kit_ty (by decide +kernel)
theorem k_dd (K : PySem.W.Frag) : PySem.W.kitOne K (.type "dict") (.type "dict") = some true := kit_ty (by decide +kernel)
theorem ok_is_integer {P : Program} {w : World} {K : PySem.W.Frag} {mg : Str → Option Value} {base : Heap} {f : Addr} {fd : FuncData} (T : Txt K mg) (F : FunD K "is_integer" "is_integer" (defArgs s_is_integer) (defBody s_is_integer) (defScope s_is_integer) [] [] f fd)   :
    FnOk P w K mg base CX0 1 f fd ["thing"] (spOf (S_is_integer P w K)) := by
  refine F.ok sc_is_integer (len_of (by intro rs k h; first | (obtain ⟨e, _⟩ := h; subst e; exact rfl) | (obtain ⟨_, e, _⟩ := h; subst e; exact rfl) | (obtain ⟨_, _, e, _⟩ := h; subst e; exact rfl) | (obtain ⟨_, _, _, e, _⟩ := h; subst e; exact rfl) | (obtain ⟨_, _, _, _, e, _⟩ := h; subst e; exact rfl) | (obtain ⟨_, _, _, _, _, e, _⟩ := h; subst e; exact rfl) | (obtain ⟨_, _, _, _, _, _, e, _⟩ := h; subst e; exact rfl) | (obtain ⟨_, _, _, _, _, _, _, e, _⟩ := h; subst e; exact rfl) | (obtain ⟨_, _, _, _, _, _, _, _, e, _⟩ := h; subst e; exact rfl) | (obtain ⟨_, _, _, _, _, _, _, _, _, e, _⟩ := h; subst e; exact rfl) | (obtain ⟨_, _, _, _, _, _, _, _, _, _, e, _⟩ := h; subst e; exact rfl) | (obtain ⟨_, _, _, _, _, _, _, _, _, _, _, e, _⟩ := h; subst e; exact rfl) | (obtain ⟨_, _, _, _, _, _, _, _, _, _, _, _, e, _⟩ := h; subst e; exact rfl))) (fun cdv A outer s H vs Q E hr h => ?_)
  
  refine ⟨_, PSs.nox (pss_cons (ps_ret (pe_and (pe_callB (k_isi (P := P) (w := w) (K := K) rfl rfl rfl) rfl T.b_isinstance boot_isinstance (pa_cons (pv 0) (pa_cons (pe_bltn (v := .ty "int") rfl T.b_int boot_int rfl) pa_nil))) (pe_one (pe_not (pe_callB (k_isi (P := P) (w := w) (K := K) rfl rfl rfl) rfl T.b_isinstance boot_isinstance (pa_cons (pv 0) (pa_cons (pe_bltn (v := .ty "bool") rfl T.b_bool boot_bool rfl) pa_nil))))))) pss_nil), ?_⟩
  refine read_of P w K h rfl fun rs k D hs hD hN => ?_
  obtain ⟨i, rfl, hk⟩ := hs
  (refine ws_retS (by assumption) ?_; refine we_andV ?_; (first | refine we_cb ?_ | refine we_xlen ?_); refine wa_cons ?_; refine we_var rfl ?_; refine wa_cons ?_; refine we_c ?_; refine wa_nil ?_)
  refine ct_isi ty_int (.ty _) (k_ii _) ?_
  (refine ⟨_, rfl, ?_⟩; refine ⟨fun _ => ?_, fun z => Bool.noConfusion (show true = false from by first | exact z | exact z.symm)⟩; refine we_notV ?_; (first | refine we_cb ?_ | refine we_xlen ?_); refine wa_cons ?_; refine we_var rfl ?_; refine wa_cons ?_; refine we_c ?_; refine wa_nil ?_)
  refine ct_isi ty_int (.ty _) (k_ib _) ?_
  exact ⟨_, rfl, hk⟩
theorem ok_is_within {P : Program} {w : World} {K : PySem.W.Frag} {mg : Str → Option Value} {base : Heap} {f : Addr} {fd fd_is_integer : FuncData} (T : Txt K mg) (F : FunD K "is_within" "is_within" (defArgs s_is_within) (defBody s_is_within) (defScope s_is_within) [] [] f fd) (c_is_integer : Callee P w K mg base (He.ga K "is_integer") fd_is_integer ["thing"] 1 (spOf (S_is_integer P w K)))  :
    FnOk P w K mg base CX0 2 f fd ["thing", "least", "most"] (spOf (S_is_within P w K)) := by
  refine F.ok sc_is_within (len_of (by intro rs k h; first | (obtain ⟨e, _⟩ := h; subst e; exact rfl) | (obtain ⟨_, e, _⟩ := h; subst e; exact rfl) | (obtain ⟨_, _, e, _⟩ := h; subst e; exact rfl) | (obtain ⟨_, _, _, e, _⟩ := h; subst e; exact rfl) | (obtain ⟨_, _, _, _, e, _⟩ := h; subst e; exact rfl) | (obtain ⟨_, _, _, _, _, e, _⟩ := h; subst e; exact rfl) | (obtain ⟨_, _, _, _, _, _, e, _⟩ := h; subst e; exact rfl) | (obtain ⟨_, _, _, _, _, _, _, e, _⟩ := h; subst e; exact rfl) | (obtain ⟨_, _, _, _, _, _, _, _, e, _⟩ := h; subst e; exact rfl) | (obtain ⟨_, _, _, _, _, _, _, _, _, e, _⟩ := h; subst e; exact rfl) | (obtain ⟨_, _, _, _, _, _, _, _, _, _, e, _⟩ := h; subst e; exact rfl) | (obtain ⟨_, _, _, _, _, _, _, _, _, _, _, e, _⟩ := h; subst e; exact rfl) | (obtain ⟨_, _, _, _, _, _, _, _, _, _, _, _, e, _⟩ := h; subst e; exact rfl))) (fun cdv A outer s H vs Q E hr h => ?_)
  
  refine ⟨_, PSs.nox (pss_cons (ps_ret (pe_and (pe_call (c_is_integer.F.mono (by decide)) hr rfl T.g_is_integer c_is_integer.kp c_is_integer.b .nil pass0 (pa_cons (pv 0) pa_nil)) (pe_one (pe_chain op_le op_le (pv 1) (pv 0) (pv 2))))) pss_nil), ?_⟩
  refine read_of P w K h rfl fun rs k D hs hD hN => ?_
  obtain ⟨i, a, b, rfl, hk⟩ := hs
  (refine ws_retS (by assumption) ?_; refine we_andV ?_; refine we_call ?_; refine wa_cons ?_; refine we_var rfl ?_; refine wa_nil ?_)
  refine ⟨i, rfl, ?_⟩
  (refine ⟨_, rfl, ?_⟩; refine ⟨fun _ => ?_, fun z => Bool.noConfusion (show true = false from by first | exact z | exact z.symm)⟩; refine we_chain ?_; refine we_var rfl ?_; refine we_var rfl ?_; refine ot_I0 ?_; refine ⟨_, rfl, ?_⟩)
  refine ⟨fun h1 => ?_, fun h1 => ?_⟩
  · (refine we_var rfl ?_; refine ot_I0 ?_)
    rw [h1, Bool.true_and] at hk
    exact hk
  · rw [h1, Bool.false_and] at hk
    exact hk
theorem ok_check_unknown {P : Program} {w : World} {K : PySem.W.Frag} {mg : Str → Option Value} {base : Heap} {f : Addr} {fd fd_is_within : FuncData} (T : Txt K mg) (F : FunD K "check_unknown" "check_unknown" (defArgs s_check_unknown) (defBody s_check_unknown) (defScope s_check_unknown) [] [] f fd) (c_is_within : Callee P w K mg base (He.ga K "is_within") fd_is_within ["thing", "least", "most"] 2 (spOf (S_is_within P w K)))  :
    FnOk P w K mg base CX0 3 f fd ["thing"] (spOf (S_check_unknown P w K)) := by
  refine F.ok sc_check_unknown (len_of (by intro rs k h; first | (obtain ⟨e, _⟩ := h; subst e; exact rfl) | (obtain ⟨_, e, _⟩ := h; subst e; exact rfl) | (obtain ⟨_, _, e, _⟩ := h; subst e; exact rfl) | (obtain ⟨_, _, _, e, _⟩ := h; subst e; exact rfl) | (obtain ⟨_, _, _, _, e, _⟩ := h; subst e; exact rfl) | (obtain ⟨_, _, _, _, _, e, _⟩ := h; subst e; exact rfl) | (obtain ⟨_, _, _, _, _, _, e, _⟩ := h; subst e; exact rfl) | (obtain ⟨_, _, _, _, _, _, _, e, _⟩ := h; subst e; exact rfl) | (obtain ⟨_, _, _, _, _, _, _, _, e, _⟩ := h; subst e; exact rfl) | (obtain ⟨_, _, _, _, _, _, _, _, _, e, _⟩ := h; subst e; exact rfl) | (obtain ⟨_, _, _, _, _, _, _, _, _, _, e, _⟩ := h; subst e; exact rfl) | (obtain ⟨_, _, _, _, _, _, _, _, _, _, _, e, _⟩ := h; subst e; exact rfl) | (obtain ⟨_, _, _, _, _, _, _, _, _, _, _, _, e, _⟩ := h; subst e; exact rfl))) (fun cdv A outer s H vs Q E hr h => ?_)
  
  refine ⟨_, PSs.nox (pss_cons (ps_if (pt_not (pt_val (pe_call (c_is_within.F.mono (by decide)) hr rfl T.g_is_within c_is_within.kp c_is_within.b .nil pass0 (pa_cons (pv 0) (pa_cons pe_int (pa_cons (pe_op op_sub (pe_glob (v := .int 4) rfl T.c_UNKNOWNS.choose_spec ⟨_, rfl⟩) pe_int) pa_nil)))))) (pss_cons ps_no pss_nil) pss_nil) pss_nil), ?_⟩
  refine read_of P w K h rfl fun rs k D hs hD hN => ?_
  obtain ⟨i, rfl, hi, hk⟩ := hs
  (refine ws_if ?_; refine wt_not ?_; refine wt_B ?_; refine we_call ?_; refine wa_cons ?_; refine we_var rfl ?_; refine wa_cons ?_; refine we_c ?_; refine wa_cons ?_; refine we_op ?_; refine we_c ?_; refine we_c ?_; refine ot_I0 ?_; refine wa_nil ?_)
  refine ⟨_, _, _, rfl, _, rfl, fun z => ?_, fun _ => ?_⟩
  · rw [decide_eq_true hi.1, decide_eq_true (by omega : i ≤ 4 - 1)] at z
    cases z
  · ((first | exact ws_end (by assumption) (by assumption) | refine ws_thru ?_))
end Lw
set_option Elab.async false
set_option linter.all false
set_option maxRecDepth 100000
set_option maxHeartbeats 1000000
namespace Lw
open PySem PySem.Spec PyProof.Rows L2 BX
abbrev CP (K : PySem.W.Frag) : Addr := He.ga K "Poly"
abbrev CR (K : PySem.W.Frag) : Addr := He.ga K "RawPoly"
/-- powers that a term may have -/
def PwOk (p : List Int) : Prop := p.length = 4 ∧ ∀ x ∈ p, 0 ≤ x ∧ x ≤ 60
def S_is_term (P : Program) (w : World) (K : PySem.W.Frag) : Spc := fun rs k => ∃ p c, rs = [rTup K [rKey K p, rInt c]] ∧ PwOk p ∧ c ≠ 0 ∧ k (rBl true)
def TsOk (ts : PT) : Prop := ts.length ≤ 300 ∧ (∀ t ∈ ts, PwOk t.1 ∧ t.2 ≠ 0) ∧ ts.Pairwise (fun a b => HT.lexLt a.1 b.1 = true)
def S_Poly_init (P : Program) (w : World) (K : PySem.W.Frag) : List Rel → List (Str × Rel) → Prop := fun rs fs => ∃ ts, rs = [rTms K ts] ∧ TsOk ts ∧ fs = [(fT, rTms K ts)]
def S_RawPoly_init (P : Program) (w : World) (K : PySem.W.Frag) : List Rel → List (Str × Rel) → Prop := fun rs fs => ∃ ts, rs = [rTms K ts] ∧ fs = [(fT, rTms K ts)]
theorem getD_map {α : Type} {g : α → Rel} {L : List α} {d : Rel} {i : Nat} (hi : i < L.length) : (L.map g).getD i d = g L[i] := by
  rw [List.getD_eq_getElem?_getD, List.getElem?_map, List.getElem?_eq_getElem hi]
  rfl
theorem ct_allE {B : Bd} {k : Rel → Prop} {rs : List Rel} (bs : List Bool) (he : rs = bs.map rBl) (q : k (rBl (bs.all id))) : CaT B (rAll B.K) [rLst rs] k := by
  subst he
  exact ct_all q
theorem all_true (n : Nat) : (List.replicate n true).all id = true := by induction n with
  | zero => rfl
  | succ n ih => simp [List.replicate_succ]
theorem getD_mem' {p : List Int} {i : Nat} (h : i < p.length) : p.getD i 0 ∈ p := by
  rw [List.getD_eq_getElem?_getD, List.getElem?_eq_getElem h]
  exact List.getElem_mem h
theorem ok_is_term {P : Program} {w : World} {K : PySem.W.Frag} {mg : Str → Option Value} {base : Heap} {f : Addr} {fd fd_is_within fd_is_integer : FuncData} (T : Txt K mg) (F : FunD K "is_term" "is_term" (defArgs s_is_term) (defBody s_is_term) (defScope s_is_term) [] [] f fd) (c_is_within : Callee P w K mg base (He.ga K "is_within") fd_is_within ["thing", "least", "most"] 2 (spOf (S_is_within P w K))) (c_is_integer : Callee P w K mg base (He.ga K "is_integer") fd_is_integer ["thing"] 1 (spOf (S_is_integer P w K)))  :
    FnOk P w K mg base CX0 3 f fd ["thing"] (spOf (S_is_term P w K)) := by
  refine F.ok sc_is_term (len_of (by intro rs k h; first | (obtain ⟨e, _⟩ := h; subst e; exact rfl) | (obtain ⟨_, e, _⟩ := h; subst e; exact rfl) | (obtain ⟨_, _, e, _⟩ := h; subst e; exact rfl) | (obtain ⟨_, _, _, e, _⟩ := h; subst e; exact rfl) | (obtain ⟨_, _, _, _, e, _⟩ := h; subst e; exact rfl) | (obtain ⟨_, _, _, _, _, e, _⟩ := h; subst e; exact rfl) | (obtain ⟨_, _, _, _, _, _, e, _⟩ := h; subst e; exact rfl) | (obtain ⟨_, _, _, _, _, _, _, e, _⟩ := h; subst e; exact rfl) | (obtain ⟨_, _, _, _, _, _, _, _, e, _⟩ := h; subst e; exact rfl) | (obtain ⟨_, _, _, _, _, _, _, _, _, e, _⟩ := h; subst e; exact rfl) | (obtain ⟨_, _, _, _, _, _, _, _, _, _, e, _⟩ := h; subst e; exact rfl) | (obtain ⟨_, _, _, _, _, _, _, _, _, _, _, e, _⟩ := h; subst e; exact rfl) | (obtain ⟨_, _, _, _, _, _, _, _, _, _, _, _, e, _⟩ := h; subst e; exact rfl))) (fun cdv A outer s H vs Q E hr h => ?_)
  
  refine ⟨_, PSs.nox (pss_cons (ps_if (PW.pt (pw_or (pt_not (pt_val (pe_callB (k_isi (P := P) (w := w) (K := K) rfl rfl rfl) rfl T.b_isinstance boot_isinstance (pa_cons (pv 0) (pa_cons (pe_bltn (v := .ty "tuple") rfl T.b_tuple boot_tuple rfl) pa_nil))))) (pw_or (pt_cmpR op_ne (pe_callB (k_len (K := K) rfl) rfl T.b_len boot_len (pa_cons (pv 0) pa_nil)) pe_int (nomark _)) (pw_or (pt_not (pt_val (pe_call (c_is_integer.F.mono (by decide)) hr rfl T.g_is_integer c_is_integer.kp c_is_integer.b .nil pass0 (pa_cons (pe_ix (k_ixT (K := K) rfl) (pv 0) pe_int (fun _ _ => rfl)) pa_nil)))) (pw_or1 (pt_cmpR op_eq (pe_ix (k_ixT (K := K) rfl) (pv 0) pe_int (fun _ _ => rfl)) pe_int (nomark _))))))) (pss_cons (ps_ret pe_bl) pss_nil) pss_nil) (pss_cons (ps_if (PW.pt (pw_or (pt_not (pt_val (pe_callB (k_isi (P := P) (w := w) (K := K) rfl rfl rfl) rfl T.b_isinstance boot_isinstance (pa_cons (pe_ix (k_ixT (K := K) rfl) (pv 0) pe_int (fun _ _ => rfl)) (pa_cons (pe_bltn (v := .ty "tuple") rfl T.b_tuple boot_tuple rfl) pa_nil))))) (pw_or1 (pt_cmpR op_ne (pe_callB (k_len (K := K) rfl) rfl T.b_len boot_len (pa_cons (pe_ix (k_ixT (K := K) rfl) (pv 0) pe_int (fun _ _ => rfl)) pa_nil)) (pe_glob (v := .int 4) rfl T.c_UNKNOWNS.choose_spec ⟨_, rfl⟩) (nomark _))))) (pss_cons (ps_ret pe_bl) pss_nil) pss_nil) (pss_cons (ps_ret (pe_callB (k_all (K := K) rfl rfl) rfl T.b_all boot_all (pa_cons (pe_frz (pe_lc (own := [("power", 1)]) (g := gName 1) (tt := tYes) rfl sc_is_term.nd (q_tup (K := K) rfl (pe_ix (k_ixT (K := K) rfl) (pv 0) pe_int (fun _ _ => rfl))) (blkOk_by (own := [("power", 1)]) (N := ["thing", "power"]) (sc := defScope s_is_term) (by decide +kernel)) (fun _ _ _ _ _ => (pg_name (i := 1) sc_is_term.nd rfl (by first | exact Or.inl rfl | exact Or.inr rfl))) (fun _ _ _ _ _ => pts_nil) (fun _ _ _ _ _ => (pe_call (c_is_within.F.mono (by decide)) hr rfl T.g_is_within c_is_within.kp c_is_within.b .nil pass0 (pa_cons (pv 1) (pa_cons pe_int (pa_cons (pe_glob (v := .int 60) rfl T.c_MOST_POWER.choose_spec ⟨_, rfl⟩) pa_nil))))))) pa_nil))) pss_nil))), ?_⟩
  refine read_of P w K h rfl fun rs k D hs hD hN => ?_
  obtain ⟨p, c, rfl, ⟨hp, hb⟩, hc, hk⟩ := hs
  (refine ws_if ?_; refine wt_or ?_; refine wt_not ?_; refine wt_B ?_; (first | refine we_cb ?_ | refine we_xlen ?_); refine wa_cons ?_; refine we_var rfl ?_; refine wa_cons ?_; refine we_c ?_; refine wa_nil ?_)
  refine ct_isi ty_tup (.ty _) (k_tt _) ?_
  (refine ⟨_, rfl, ?_⟩; refine ⟨fun z => Bool.noConfusion (show true = false from by first | exact z | exact z.symm), fun _ => ?_⟩; refine wt_or ?_; refine wt_test ?_; refine we_op ?_; (first | refine we_cb ?_ | refine we_xlen ?_); refine wa_cons ?_; refine we_var rfl ?_; refine wa_nil ?_; (first | refine ct_lenT ?_ | refine ct_lenL ?_); refine we_c ?_; refine ot_ne rfl ?_; refine ⟨_, rfl, ?_⟩)
  refine ⟨fun z => absurd z (by simp []), fun _ => ?_⟩
  (refine wt_or ?_; refine wt_not ?_; refine wt_B ?_; refine we_call ?_; refine wa_cons ?_; refine we_op ?_; refine we_var rfl ?_; refine we_c ?_)
  refine ot_ixT (r := rInt c) rfl ?_
  (refine wa_nil ?_)
  refine ⟨c, rfl, ?_⟩
  (refine ⟨_, rfl, ?_⟩; refine ⟨fun z => Bool.noConfusion (show true = false from by first | exact z | exact z.symm), fun _ => ?_⟩; refine wt_test ?_; refine we_op ?_; refine we_op ?_; refine we_var rfl ?_; refine we_c ?_)
  refine ot_ixT (r := rInt c) rfl ?_
  (refine we_c ?_; refine ot_eq rfl ?_; refine ⟨_, rfl, ?_⟩)
  refine ⟨fun z => absurd z (by simp [hc]), fun _ => ?_⟩
  ((first | exact ws_end (by assumption) (by assumption) | refine ws_thru ?_); refine ws_if ?_; refine wt_or ?_; refine wt_not ?_; refine wt_B ?_; (first | refine we_cb ?_ | refine we_xlen ?_); refine wa_cons ?_; refine we_op ?_; refine we_var rfl ?_; refine we_c ?_)
  refine ot_ixT (r := rKey K p) rfl ?_
  (refine wa_cons ?_; refine we_c ?_; refine wa_nil ?_)
  refine ct_isi ty_tup (.ty _) (k_tt _) ?_
  (refine ⟨_, rfl, ?_⟩; refine ⟨fun z => Bool.noConfusion (show true = false from by first | exact z | exact z.symm), fun _ => ?_⟩; refine wt_test ?_; refine we_op ?_; (first | refine we_cb ?_ | refine we_xlen ?_); refine wa_cons ?_; refine we_op ?_; refine we_var rfl ?_; refine we_c ?_)
  refine ot_ixT (r := rKey K p) rfl ?_
  (refine wa_nil ?_; (first | refine ct_lenT ?_ | refine ct_lenL ?_); refine we_c ?_; refine ot_ne rfl ?_; refine ⟨_, rfl, ?_⟩)
  refine ⟨fun z => absurd z (by simp [hp]), fun _ => ?_⟩
  ((first | exact ws_end (by assumption) (by assumption) | refine ws_thru ?_); refine ws_retS (by assumption) ?_; (first | refine we_cb ?_ | refine we_xlen ?_); refine wa_cons ?_; refine we_frzL ?_)
  refine wl_lcM p (g := rInt) (h := fun _ => rBl true) ?_
  (refine wi_tup ?_; refine we_op ?_; refine we_var rfl ?_; refine we_c ?_)
  refine ot_ixT (r := rKey K p) rfl ?_
  refine ⟨p.map rInt, rfl, by rw [List.length_map], fun i hi => getD_map hi, by rw [hp]; decide, fun x hx G st => ?_, ?_⟩
  · refine ⟨_, _, ?_, wg_name, ?_⟩
    · intro j hj; exact hj
    · (refine we_call ?_; refine wa_cons ?_; refine we_var rfl ?_; refine wa_cons ?_; refine we_c ?_; refine wa_cons ?_; refine we_c ?_; refine wa_nil ?_)
      refine ⟨x, 0, 60, rfl, ?_⟩
      rw [decide_eq_true (hb x hx).1, decide_eq_true (hb x hx).2]
      rfl
  · (refine wa_nil ?_)
    refine ct_allE (p.map fun _ => true) (by rw [List.map_map]; rfl) ?_
    have e : (p.map fun _ => true).all id = true := by simp
    rw [e]
    exact hk
theorem ndx_tms {K : PySem.W.Frag} {ts : PT} : Ndx (rTms K ts) := ndx_tup fun r hr => by
  obtain ⟨t, _, rfl⟩ := List.mem_map.mp hr
  refine ndx_tup fun r hr => ?_
  rcases List.mem_cons.mp hr with rfl | hr
  · refine ndx_tup fun r hr => ?_
    obtain ⟨i, _, rfl⟩ := List.mem_map.mp hr
    exact ndx_c
  · rw [List.mem_singleton.mp hr]
    exact ndx_c
theorem ok_RawPoly_init {P : Program} {w : World} {K : PySem.W.Frag} {mg : Str → Option Value} {base : Heap} {f : Addr} {fd : FuncData} (T : Txt K mg) (F : FunD K "__init__" "RawPoly.__init__" (defArgs s_RawPoly_init) (defBody s_RawPoly_init) (defScope s_RawPoly_init) [] [] f fd)  (cl : Cls K (He.ga K "RawPoly")) (na : NoAttr K (He.ga K "RawPoly") fT) :
    FnOk P w K mg base CX0 1 f fd ["self", "terms"] (spMk (He.ga K "RawPoly") (S_RawPoly_init P w K)) := by
  refine F.ok sc_RawPoly_init (len_mk (by intro rs k h; first | (obtain ⟨e, _⟩ := h; subst e; exact rfl) | (obtain ⟨_, e, _⟩ := h; subst e; exact rfl) | (obtain ⟨_, _, e, _⟩ := h; subst e; exact rfl) | (obtain ⟨_, _, _, e, _⟩ := h; subst e; exact rfl) | (obtain ⟨_, _, _, _, e, _⟩ := h; subst e; exact rfl) | (obtain ⟨_, _, _, _, _, e, _⟩ := h; subst e; exact rfl) | (obtain ⟨_, _, _, _, _, _, e, _⟩ := h; subst e; exact rfl) | (obtain ⟨_, _, _, _, _, _, _, e, _⟩ := h; subst e; exact rfl) | (obtain ⟨_, _, _, _, _, _, _, _, e, _⟩ := h; subst e; exact rfl) | (obtain ⟨_, _, _, _, _, _, _, _, _, e, _⟩ := h; subst e; exact rfl) | (obtain ⟨_, _, _, _, _, _, _, _, _, _, e, _⟩ := h; subst e; exact rfl) | (obtain ⟨_, _, _, _, _, _, _, _, _, _, _, e, _⟩ := h; subst e; exact rfl) | (obtain ⟨_, _, _, _, _, _, _, _, _, _, _, _, e, _⟩ := h; subst e; exact rfl))) (fun cdv A outer s H vs Q E hr h => ?_)
  
  refine ⟨_, PSs.nox (pss_cons (q_sfld (K := K) rfl (pv 0) (pv 1) rfl) pss_nil), ?_⟩
  refine mk_of P w K h rfl fun rs fs D x dx hs hD => ?_
  obtain ⟨ts, rfl, rfl⟩ := hs
  refine ws_fldM rfl hD (fun _ h => h) cl na ?_ rfl
  (refine we_var rfl ?_)
  exact ⟨ndx_tms, rfl⟩
theorem ok_Poly_init {P : Program} {w : World} {K : PySem.W.Frag} {mg : Str → Option Value} {base : Heap} {f : Addr} {fd fd_is_term : FuncData} (T : Txt K mg) (F : FunD K "__init__" "Poly.__init__" (defArgs s_Poly_init) (defBody s_Poly_init) (defScope s_Poly_init) [] [] f fd) (c_is_term : Callee P w K mg base (He.ga K "is_term") fd_is_term ["thing"] 3 (spOf (S_is_term P w K))) (cl : Cls K (He.ga K "Poly")) (na : NoAttr K (He.ga K "Poly") fT) :
    FnOk P w K mg base CX0 4 f fd ["self", "terms"] (spMk (He.ga K "Poly") (S_Poly_init P w K)) := by
  refine F.ok sc_Poly_init (len_mk (by intro rs k h; first | (obtain ⟨e, _⟩ := h; subst e; exact rfl) | (obtain ⟨_, e, _⟩ := h; subst e; exact rfl) | (obtain ⟨_, _, e, _⟩ := h; subst e; exact rfl) | (obtain ⟨_, _, _, e, _⟩ := h; subst e; exact rfl) | (obtain ⟨_, _, _, _, e, _⟩ := h; subst e; exact rfl) | (obtain ⟨_, _, _, _, _, e, _⟩ := h; subst e; exact rfl) | (obtain ⟨_, _, _, _, _, _, e, _⟩ := h; subst e; exact rfl) | (obtain ⟨_, _, _, _, _, _, _, e, _⟩ := h; subst e; exact rfl) | (obtain ⟨_, _, _, _, _, _, _, _, e, _⟩ := h; subst e; exact rfl) | (obtain ⟨_, _, _, _, _, _, _, _, _, e, _⟩ := h; subst e; exact rfl) | (obtain ⟨_, _, _, _, _, _, _, _, _, _, e, _⟩ := h; subst e; exact rfl) | (obtain ⟨_, _, _, _, _, _, _, _, _, _, _, e, _⟩ := h; subst e; exact rfl) | (obtain ⟨_, _, _, _, _, _, _, _, _, _, _, _, e, _⟩ := h; subst e; exact rfl))) (fun cdv A outer s H vs Q E hr h => ?_)
  
  refine ⟨_, PSs.nox (pss_cons (ps_if (PW.pt (pw_or (pt_not (pt_val (pe_callB (k_isi (P := P) (w := w) (K := K) rfl rfl rfl) rfl T.b_isinstance boot_isinstance (pa_cons (pv 1) (pa_cons (pe_bltn (v := .ty "tuple") rfl T.b_tuple boot_tuple rfl) pa_nil))))) (pw_or1 (pt_cmpR op_gt (pe_callB (k_len (K := K) rfl) rfl T.b_len boot_len (pa_cons (pv 1) pa_nil)) (pe_glob (v := .int 300) rfl T.c_MOST_TERMS.choose_spec ⟨_, rfl⟩) (nomark _))))) (pss_cons ps_no pss_nil) pss_nil) (pss_cons (ps_for PassesOwn.never rfl (q_enumT (K := K) rfl rfl T.b_enumerate (pa_cons (pv 1) pa_nil)) (q_gtup (K := K) rfl rfl (pgs_cons (pg_name (i := 2) sc_Poly_init.nd rfl (by first | exact Or.inl rfl | exact Or.inr rfl)) (pgs_cons (pg_name (i := 3) sc_Poly_init.nd rfl (by first | exact Or.inl rfl | exact Or.inr rfl)) pgs_nil))) (pss_cons (ps_if (PW.pt (pw_or (pt_not (pt_val (pe_call (c_is_term.F.mono (by decide)) hr rfl T.g_is_term c_is_term.kp c_is_term.b .nil pass0 (pa_cons (pv 3) pa_nil)))) (pw_or1 (PW.pt (pw_and (pt_cmpR op_gt (pv 2) pe_int (nomark _)) (pw_and1 (pt_not (pt_cmpR (k_ltT (K := K) rfl hr.units0) (pe_ix (k_ixT (K := K) rfl) (pe_ix (k_ixT (K := K) rfl) (pv 1) (pe_op op_sub (pv 2) pe_int) (fun _ _ => rfl)) pe_int (fun _ _ => rfl)) (pe_ix (k_ixT (K := K) rfl) (pv 3) pe_int (fun _ _ => rfl)) (nomark _))))))))) (pss_cons ps_no pss_nil) pss_nil) pss_nil)) (pss_cons (q_sfld (K := K) rfl (pv 0) (pv 1) rfl) pss_nil))), ?_⟩
  refine mk_of P w K h rfl fun rs fs D x dx hs hD => ?_
  obtain ⟨ts, rfl, ⟨h300, hts, hsort⟩, rfl⟩ := hs
  (refine ws_if ?_; refine wt_or ?_; refine wt_not ?_; refine wt_B ?_; (first | refine we_cb ?_ | refine we_xlen ?_); refine wa_cons ?_; refine we_var rfl ?_; refine wa_cons ?_; refine we_c ?_; refine wa_nil ?_)
  refine ct_isi ty_tup (.ty _) (k_tt _) ?_
  (refine ⟨_, rfl, ?_⟩; refine ⟨fun z => Bool.noConfusion (show true = false from by first | exact z | exact z.symm), fun _ => ?_⟩; refine wt_test ?_; refine we_op ?_; (first | refine we_cb ?_ | refine we_xlen ?_); refine wa_cons ?_; refine we_var rfl ?_; refine wa_nil ?_; (first | refine ct_lenT ?_ | refine ct_lenL ?_); refine we_c ?_; refine ot_I0 ?_; refine ⟨_, rfl, ?_⟩)
  refine ⟨fun z => absurd z (by simp [show (ts.length : Int) ≤ 300 by omega]), fun _ => ?_⟩
  ((first | exact ws_end (by assumption) (by assumption) | refine ws_thru ?_))
  refine ws_forF (List.range ts.length) (g := fun i => rTup K [rInt (i : Int), (ts.map fun t => rTup K [rKey K t.1, rInt t.2]).getD i (rC .non)]) () (fun _ _ => ()) (fun _ => [.im (rC (.ref x)), .im (rTms K ts), .no, .no]) ?_
  (refine wi_enumT ?_; refine wa_cons ?_; refine we_var rfl ?_; refine wa_nil ?_; refine ⟨_, rfl, ?_⟩)
  refine ⟨by rw [List.length_map, List.length_range], fun i hi => by rw [List.getElem_range], by (repeat' (first | exact Weak.nil | apply Weak.eq | apply Weak.no)), fun i hi G st => ?_, ?_⟩
  · have hi' : i < ts.length := by simpa using hi
    rw [List.getElem_range, getD_map (g := fun t => rTup K [rKey K t.1, rInt t.2]) hi']
    refine ⟨_, _, wg_tup rfl (wgs_cons wg_name (wgs_cons wg_name wgs_nil)), ?_⟩
    have ht := hts ts[i] (List.getElem_mem hi')
    (refine ws_if ?_; refine wt_or ?_; refine wt_not ?_; refine wt_B ?_; refine we_call ?_; refine wa_cons ?_; refine we_var rfl ?_; refine wa_nil ?_)
    refine ⟨ts[i].1, ts[i].2, rfl, ht.1, ht.2, ?_⟩
    (refine ⟨_, rfl, ?_⟩; refine ⟨fun z => Bool.noConfusion (show true = false from by first | exact z | exact z.symm), fun _ => ?_⟩; refine wt_and ?_; refine wt_test ?_; refine we_op ?_; refine we_var rfl ?_; refine we_c ?_; refine ot_I0 ?_; refine ⟨_, rfl, ?_⟩)
    refine ⟨fun h0 => ?_, fun _ => ?_⟩
    · have h0' : 0 < i := by simpa using h0
      have hi1 : i - 1 < ts.length := by omega
      (refine wt_not ?_; refine wt_test ?_; refine we_op ?_; refine we_op ?_; refine we_op ?_; refine we_var rfl ?_; refine we_op ?_; refine we_var rfl ?_; refine we_c ?_; refine ot_I0 ?_)
      refine ot_ixT (r := rTup K [rKey K ts[i - 1].1, rInt ts[i - 1].2]) ?_ ?_
      · have e : ((i : Int) - 1) = ((i - 1 : Nat) : Int) := by omega
        rw [e]
        refine atI_nat ?_
        rw [List.getElem?_map, List.getElem?_eq_getElem hi1]
        rfl
      (refine we_c ?_)
      refine ot_ixT (r := rKey K ts[i - 1].1) rfl ?_
      (refine we_op ?_; refine we_var rfl ?_; refine we_c ?_)
      refine ot_ixT (r := rKey K ts[i].1) rfl ?_
      (refine ot_ltT ?_; refine ⟨_, rfl, ?_⟩)
      rw [(List.pairwise_iff_getElem.mp hsort) (i - 1) i hi1 hi' (by omega)]
      (refine ⟨fun z => Bool.noConfusion (show true = false from by first | exact z | exact z.symm), fun _ => ?_⟩; (first | exact ws_end (by assumption) (by assumption) | refine ws_thru ?_))
      exact ws_nextW rfl (by (repeat' (first | exact Weak.nil | apply Weak.eq | apply Weak.no)))
    · (refine ⟨fun z => Bool.noConfusion (show true = false from by first | exact z | exact z.symm), fun _ => ?_⟩; (first | exact ws_end (by assumption) (by assumption) | refine ws_thru ?_))
      exact ws_nextW rfl (by (repeat' (first | exact Weak.nil | apply Weak.eq | apply Weak.no)))
  · refine ws_fldM rfl hD (fun _ h => h) cl na ?_ rfl
    (refine we_var rfl ?_)
    exact ⟨ndx_tms, rfl⟩
end Lw
set_option Elab.async false
set_option linter.all false
set_option maxRecDepth 100000
set_option maxHeartbeats 1000000
namespace Lw
open PySem PySem.Spec PyProof.Rows L2 BX
/-- a class of polynomials -/
structure PolyC (K : PySem.W.Frag) (C : Addr) : Prop where
  cl : Cls K C
  na : NoAttr K C fT
  ha : PySem.W.findIn K (.ref C) "__class__" = some (some (.builtin "object.__class__"))
  hn : PySem.W.specialIn K (.builtin "object.__class__") "__get__" = some (some (.builtin "getset_descriptor.__get__"))
  htk : PySem.W.takesIn K (.builtin "object.__class__") = some true
  hm : PySem.W.mroIn K C (.type "object") = some true
  ki : PySem.W.kitOne K (.ref C) (.ref (CP K)) = some true
  eq : PySem.W.findIn K (.ref C) "__eq__" = some (some (.ref (He.ma K (CP K) "__eq__")))
  isf : PySem.W.isFn K (.ref (He.ma K (CP K) "__eq__")) = true
theorem PolyC.ty {B : Bd} {C : Addr} {fs : List (Str × Rel)} (h : PolyC B.K C) : HasTy B (rIns C fs) (.ref C) := ty_ins h.cl h.ha h.hn h.htk h.hm
theorem eqT_tms {X : Cx} {K : PySem.W.Frag} (hK : X.K = K) (ts : PT) : ∀ r ∈ ts.map (fun t => rTup K [rKey K t.1, rInt t.2]), EqR X 2 r := by
  subst hK
  intro r hr
  obtain ⟨t, _, rfl⟩ := List.mem_map.mp hr
  refine eqR_tup fun r hr => ?_
  rcases List.mem_cons.mp hr with rfl | hr
  · exact eqR_key
  · rw [List.mem_singleton.mp hr]
    exact eqR_int.mono' (by decide)
def S_Poly_eq (C : Addr) (ts : PT) (P : Program) (w : World) (K : PySem.W.Frag) : Spc := fun rs k => PolyC K C ∧ rs = [rPT K C ts, rPT K C ts] ∧ k (rBl true)
def S_poly_from (P : Program) (w : World) (K : PySem.W.Frag) : Spc := fun rs k => ∃ m : PT, rs = [rDI P w K m] ∧ (∀ e ∈ m, e.1 ≠ []) ∧ m.length ≤ sizeLine ∧ k (rPT K (CR K) (canon m))
theorem key_get {m : PT} {k : List Int} (h : k ∈ m.map (·.1)) : getM (mI m) k = some (rInt (cf m k)) := by
  rw [show getM (mI m) k = (getM m k).map rInt from getM_map rInt m k]
  have : (getM m k).isSome = true := by
    induction m with
    | nil => cases h
    | cons e m ih =>
      rw [getM_cons]
      by_cases c : e.1 = k
      · rw [if_pos c]; rfl
      · rw [if_neg c]
        rcases List.mem_cons.mp h with h | h
        · exact absurd h.symm c
        · exact ih h
  unfold cf
  cases e : getM m k with
  | none => rw [e] at this; cases this
  | some c => rfl
theorem dec_int (a b : Int) : decide (V.int a = V.int b) = decide (a = b) := by
  by_cases h : a = b
  · rw [h]; simp
  · have h' : ¬ V.int a = V.int b := fun z => h (by injection z)
    rw [decide_eq_false h, decide_eq_false h']
theorem ok_poly_from {P : Program} {w : World} {K : PySem.W.Frag} {mg : Str → Option Value} {base : Heap} {f : Addr} {fd fd_RawPoly_init : FuncData} (T : Txt K mg) (F : FunD K "poly_from" "poly_from" (defArgs s_poly_from) (defBody s_poly_from) (defScope s_poly_from) [] [] f fd) (c_RawPoly_init : Callee P w K mg base (He.ma K (He.ga K "RawPoly") "__init__") fd_RawPoly_init ["self", "terms"] 1 (spMk (He.ga K "RawPoly") (S_RawPoly_init P w K)))  :
    FnOk P w K mg base CX0 3 f fd ["parts"] (spOf (S_poly_from P w K)) := by
  refine F.ok sc_poly_from (len_of (by intro rs k h; first | (obtain ⟨e, _⟩ := h; subst e; exact rfl) | (obtain ⟨_, e, _⟩ := h; subst e; exact rfl) | (obtain ⟨_, _, e, _⟩ := h; subst e; exact rfl) | (obtain ⟨_, _, _, e, _⟩ := h; subst e; exact rfl) | (obtain ⟨_, _, _, _, e, _⟩ := h; subst e; exact rfl) | (obtain ⟨_, _, _, _, _, e, _⟩ := h; subst e; exact rfl) | (obtain ⟨_, _, _, _, _, _, e, _⟩ := h; subst e; exact rfl) | (obtain ⟨_, _, _, _, _, _, _, e, _⟩ := h; subst e; exact rfl) | (obtain ⟨_, _, _, _, _, _, _, _, e, _⟩ := h; subst e; exact rfl) | (obtain ⟨_, _, _, _, _, _, _, _, _, e, _⟩ := h; subst e; exact rfl) | (obtain ⟨_, _, _, _, _, _, _, _, _, _, e, _⟩ := h; subst e; exact rfl) | (obtain ⟨_, _, _, _, _, _, _, _, _, _, _, e, _⟩ := h; subst e; exact rfl) | (obtain ⟨_, _, _, _, _, _, _, _, _, _, _, _, e, _⟩ := h; subst e; exact rfl))) (fun cdv A outer s H vs Q E hr h => ?_)
  
  refine ⟨_, PSs.nox (pss_cons (ps_ret (pe_make (k := 1) T.m_RawPoly (c_RawPoly_init.F.mono (by decide)) hr rfl T.c_RawPoly c_RawPoly_init.b .nil pass0 (pa_cons (pe_callTy (k_tupleOf (K := K) rfl) rfl T.b_tuple boot_tuple (pa_cons (pe_frz (pe_lc (own := [("powers", 1)]) (g := gName 1) rfl sc_poly_from.nd (q_list (K := K) rfl (pe_frz (pe_callB (k_xsorted (P := P) (w := w) (K := K) rfl rfl rfl rfl hr.units) rfl T.b_sorted boot_sorted (pa_cons (pv 0) pa_nil)))) (blkOk_by (own := [("powers", 1)]) (N := ["parts", "powers"]) (sc := defScope s_poly_from) (by decide +kernel)) (fun _ _ _ _ _ => (pg_name (i := 1) sc_poly_from.nd rfl (by first | exact Or.inl rfl | exact Or.inr rfl))) (fun _ _ _ _ _ => (pts_one (pt_cmpR op_ne (q_get (P := P) (w := w) (K := K) rfl rfl rfl (hu_of hr) (pv 0) (pv 1) (fun _ _ => rfl)) pe_int (nomark _)))) (fun _ _ _ _ _ => (pe_tup (pa_cons (pv 1) (pa_cons (q_get (P := P) (w := w) (K := K) rfl rfl rfl (hu_of hr) (pv 0) (pv 1) (fun _ _ => rfl)) pa_nil)))))) pa_nil)) pa_nil))) pss_nil), ?_⟩
  refine read_of P w K h rfl fun rs k D hs hD hN => ?_
  obtain ⟨m, rfl, hne, hz, hk⟩ := hs
  (refine ws_retS (by assumption) ?_; refine we_make ?_; refine wa_cons ?_; (first | refine we_cb ?_ | refine we_xlen ?_); refine wa_cons ?_; refine we_frzL ?_)
  refine wl_lcF ((m.map (·.1)).mergeSort keyLe) (g := rKey K) (f := canonF m) (h := fun t => rTup K [rKey K t.1, rInt t.2]) ?_
  (refine wi_list ?_; (first | (refine we_frzX ?_; refine wx_xpairs ?_) | (refine we_frzL ?_; first | refine wl_xsorted ?_ | refine wl_xitems ?_ | refine wl_listT ?_)); (first | refine wq_var rfl ?_ | refine wq_e ?_); refine we_var rfl ?_; refine ⟨_, rfl, ?_⟩)
  have hks : ((mI m).map (·.1)) = m.map (·.1) := by rw [List.map_map]; rfl
  refine ⟨fun p hp => ?_, ?_⟩
  · obtain ⟨e, he, rfl⟩ := List.mem_map.mp hp
    exact hne e he
  rw [hks]
  refine ⟨((m.map (·.1)).mergeSort keyLe).map (rKey K), rfl, by rw [List.length_map], fun i hi => getD_map hi, by rw [List.length_mergeSort, List.length_map]; exact hz, fun x hx G st => ?_, ?_⟩
  · have hx' : x ∈ m.map (·.1) := List.mem_mergeSort.mp hx
    refine ⟨_, _, ?_, wg_name, ?_⟩
    · intro j hj; exact hj
    · (refine wt_test ?_; refine we_op ?_; refine we_xget ?_; (first | refine wq_var rfl ?_ | refine wq_e ?_); refine we_var rfl ?_; refine ⟨_, rfl, ?_⟩; refine we_var rfl ?_)
      refine ⟨x, _, rfl, key_get hx', ?_⟩
      (refine we_c ?_; refine ot_ne rfl ?_; refine ⟨_, rfl, ?_⟩)
      rw [dec_int]
      refine ⟨fun hb => ?_, fun hb => ?_⟩
      · have hc : cf m x ≠ 0 := by simpa using hb
        refine ⟨(x, cf m x), by unfold canonF; rw [if_neg hc], ?_⟩
        (refine we_tup ?_; refine wa_cons ?_; refine we_var rfl ?_; refine wa_cons ?_; refine we_xget ?_; (first | refine wq_var rfl ?_ | refine wq_e ?_); refine we_var rfl ?_; refine ⟨_, rfl, ?_⟩; refine we_var rfl ?_)
        refine ⟨x, _, rfl, key_get hx', ?_⟩
        (refine wa_nil ?_; refine ⟨Nat.le_of_ble_eq_true rfl, ?_⟩)
        rfl
      · have hc : cf m x = 0 := by simpa using hb
        unfold canonF
        rw [if_pos hc]
  · (refine wa_nil ?_; refine ct_tuple ?_; refine wa_nil ?_)
    exact ⟨_, ⟨canon m, rfl, rfl⟩, hk⟩

def S_constant (P : Program) (w : World) (K : PySem.W.Frag) : Spc := fun rs k => ∃ c : Int, rs = [rInt c] ∧ k (rPT K (CR K) (canon [([0, 0, 0, 0], c)]))
theorem mI_foldM (m : PT) : foldM (mI m) = mI (foldM m) := foldM_map rInt m
theorem ok_constant {P : Program} {w : World} {K : PySem.W.Frag} {mg : Str → Option Value} {base : Heap} {f : Addr} {fd fd_poly_from : FuncData} (T : Txt K mg) (F : FunD K "constant" "constant" (defArgs s_constant) (defBody s_constant) (defScope s_constant) [] [] f fd) (c_poly_from : Callee P w K mg base (He.ga K "poly_from") fd_poly_from ["parts"] 3 (spOf (S_poly_from P w K))) (np : ∀ H, SqT K H (He.ga K "NO_POWERS") ([0, 0, 0, 0].map V.int)) :
    FnOk P w K mg base CX0 4 f fd ["number"] (spOf (S_constant P w K)) := by
  refine F.ok sc_constant (len_of (by intro rs k h; first | (obtain ⟨e, _⟩ := h; subst e; exact rfl) | (obtain ⟨_, e, _⟩ := h; subst e; exact rfl) | (obtain ⟨_, _, e, _⟩ := h; subst e; exact rfl) | (obtain ⟨_, _, _, e, _⟩ := h; subst e; exact rfl) | (obtain ⟨_, _, _, _, e, _⟩ := h; subst e; exact rfl) | (obtain ⟨_, _, _, _, _, e, _⟩ := h; subst e; exact rfl) | (obtain ⟨_, _, _, _, _, _, e, _⟩ := h; subst e; exact rfl) | (obtain ⟨_, _, _, _, _, _, _, e, _⟩ := h; subst e; exact rfl) | (obtain ⟨_, _, _, _, _, _, _, _, e, _⟩ := h; subst e; exact rfl) | (obtain ⟨_, _, _, _, _, _, _, _, _, e, _⟩ := h; subst e; exact rfl) | (obtain ⟨_, _, _, _, _, _, _, _, _, _, e, _⟩ := h; subst e; exact rfl) | (obtain ⟨_, _, _, _, _, _, _, _, _, _, _, e, _⟩ := h; subst e; exact rfl) | (obtain ⟨_, _, _, _, _, _, _, _, _, _, _, _, e, _⟩ := h; subst e; exact rfl))) (fun cdv A outer s H vs Q E hr h => ?_)
  
  refine ⟨_, PSs.nox (pss_cons (ps_ret (pe_call (c_poly_from.F.mono (by decide)) hr rfl T.g_poly_from c_poly_from.kp c_poly_from.b .nil pass0 (pa_cons (pe_frz (q_disp (P := P) (w := w) (K := K) rfl rfl rfl hr.units (pps_cons (pe_glob (v := .ref (He.ga K "NO_POWERS")) rfl T.c_NO_POWERS rfl) (pv 0) pps_nil) (by rfl) (by rfl) (fun z => by cases z) (by decide))) pa_nil))) pss_nil), ?_⟩
  refine read_of P w K h rfl fun rs k D hs hD hN => ?_
  obtain ⟨c, rfl, hk⟩ := hs
  (refine ws_retS (by assumption) ?_; refine we_call ?_; refine wa_cons ?_; (refine we_frzX ?_; refine wx_xdisp ?_); (first | refine wp_cons ?_ | refine wp_nil ?_))
  refine we_cr (rKey K [0, 0, 0, 0]) (fun H _ => rKey_of (np H)) ?_
  (refine ⟨_, rfl, ?_⟩; refine we_var rfl ?_; (first | refine wp_cons ?_ | refine wp_nil ?_); refine ⟨Nat.le_of_ble_eq_true rfl, ?_⟩; refine wa_nil ?_)
  refine ⟨[([0, 0, 0, 0], c)], rfl, fun e he => ?_, Nat.le_of_ble_eq_true rfl, hk⟩
  rw [List.mem_singleton.mp he]
  exact fun z => nomatch z
def pwOf (i : Nat) (n : Int) : List Int := (List.range 4).map fun j => if j = i then n else 0
def S_powers_of (P : Program) (w : World) (K : PySem.W.Frag) : Spc := fun rs k => ∃ (i : Nat) (n : Int), rs = [rInt (i : Int), rInt n] ∧ k (rKey K (pwOf i n))
theorem ok_powers_of {P : Program} {w : World} {K : PySem.W.Frag} {mg : Str → Option Value} {base : Heap} {f : Addr} {fd : FuncData} (T : Txt K mg) (F : FunD K "powers_of" "powers_of" (defArgs s_powers_of) (defBody s_powers_of) (defScope s_powers_of) [] [] f fd)   :
    FnOk P w K mg base CX0 1 f fd ["k", "many"] (spOf (S_powers_of P w K)) := by
  refine F.ok sc_powers_of (len_of (by intro rs k h; first | (obtain ⟨e, _⟩ := h; subst e; exact rfl) | (obtain ⟨_, e, _⟩ := h; subst e; exact rfl) | (obtain ⟨_, _, e, _⟩ := h; subst e; exact rfl) | (obtain ⟨_, _, _, e, _⟩ := h; subst e; exact rfl) | (obtain ⟨_, _, _, _, e, _⟩ := h; subst e; exact rfl) | (obtain ⟨_, _, _, _, _, e, _⟩ := h; subst e; exact rfl) | (obtain ⟨_, _, _, _, _, _, e, _⟩ := h; subst e; exact rfl) | (obtain ⟨_, _, _, _, _, _, _, e, _⟩ := h; subst e; exact rfl) | (obtain ⟨_, _, _, _, _, _, _, _, e, _⟩ := h; subst e; exact rfl) | (obtain ⟨_, _, _, _, _, _, _, _, _, e, _⟩ := h; subst e; exact rfl) | (obtain ⟨_, _, _, _, _, _, _, _, _, _, e, _⟩ := h; subst e; exact rfl) | (obtain ⟨_, _, _, _, _, _, _, _, _, _, _, e, _⟩ := h; subst e; exact rfl) | (obtain ⟨_, _, _, _, _, _, _, _, _, _, _, _, e, _⟩ := h; subst e; exact rfl))) (fun cdv A outer s H vs Q E hr h => ?_)
  
  refine ⟨_, PSs.nox (pss_cons (ps_ret (pe_callTy (k_tupleOf (K := K) rfl) rfl T.b_tuple boot_tuple (pa_cons (pe_frz (pe_lc (own := [("other", 2)]) (g := gName 2) (tt := tYes) rfl sc_powers_of.nd (pi_range1 rfl T.b_range (pa_cons (pe_glob (v := .int 4) rfl T.c_UNKNOWNS.choose_spec ⟨_, rfl⟩) pa_nil)) (blkOk_by (own := [("other", 2)]) (N := ["k", "many", "other"]) (sc := defScope s_powers_of) (by decide +kernel)) (fun _ _ _ _ _ => (pg_name (i := 2) sc_powers_of.nd rfl (by first | exact Or.inl rfl | exact Or.inr rfl))) (fun _ _ _ _ _ => pts_nil) (fun _ _ _ _ _ => (pe_ifExp (pt_cmpR op_eq (pv 2) (pv 0) (nomark _)) (pv 1) pe_int)))) pa_nil))) pss_nil), ?_⟩
  refine read_of P w K h rfl fun rs k D hs hD hN => ?_
  obtain ⟨i, n, rfl, hk⟩ := hs
  (refine ws_retS (by assumption) ?_; (first | refine we_cb ?_ | refine we_xlen ?_); refine wa_cons ?_; refine we_frzL ?_)
  refine wl_lcM (List.range 4) (g := fun j => rInt (j : Int)) (h := fun j => rInt (if j = i then n else 0)) ?_
  (refine wi_rng1 ?_; refine wa_cons ?_; refine we_c ?_; refine wa_nil ?_; refine ⟨_, rfl, ?_⟩)
  refine ⟨by decide, by decide, rfl, fun j hj => by rw [List.getElem_range], by decide, fun j hj G st => ?_, ?_⟩
  · refine ⟨_, _, ?_, wg_name, ?_⟩
    · intro j hj; exact hj
    · (refine we_if ?_; refine wt_test ?_; refine we_op ?_; refine we_var rfl ?_; refine we_var rfl ?_; refine ot_eq rfl ?_; refine ⟨_, rfl, ?_⟩)
      rw [dec_int]
      refine ⟨fun z => ?_, fun z => ?_⟩
      · have e : j = i := by have := of_decide_eq_true z; omega
        (refine we_var rfl ?_)
        rw [if_pos e]
      · have e : ¬ j = i := by have := of_decide_eq_false z; omega
        (refine we_c ?_)
        rw [if_neg e]
  · (refine wa_nil ?_; refine ct_tuple ?_)
    have e : rKey K (pwOf i n) = rTup K ((List.range 4).map fun j => rInt (if j = i then n else 0)) := by
      unfold pwOf
      show rTup K (((List.range 4).map _).map rInt) = _
      rw [List.map_map]
      rfl
    rw [e] at hk
    exact hk
def S_unknown_power (P : Program) (w : World) (K : PySem.W.Frag) : Spc := fun rs k => ∃ (i : Nat) (n : Int), rs = [rInt (i : Int), rInt n] ∧ k (rPT K (CR K) (canon [(pwOf i n, 1)]))
theorem ok_unknown_power {P : Program} {w : World} {K : PySem.W.Frag} {mg : Str → Option Value} {base : Heap} {f : Addr} {fd fd_poly_from fd_powers_of : FuncData} (T : Txt K mg) (F : FunD K "unknown_power" "unknown_power" (defArgs s_unknown_power) (defBody s_unknown_power) (defScope s_unknown_power) [] [] f fd) (c_poly_from : Callee P w K mg base (He.ga K "poly_from") fd_poly_from ["parts"] 3 (spOf (S_poly_from P w K))) (c_powers_of : Callee P w K mg base (He.ga K "powers_of") fd_powers_of ["k", "many"] 1 (spOf (S_powers_of P w K)))  :
    FnOk P w K mg base CX0 4 f fd ["k", "many"] (spOf (S_unknown_power P w K)) := by
  refine F.ok sc_unknown_power (len_of (by intro rs k h; first | (obtain ⟨e, _⟩ := h; subst e; exact rfl) | (obtain ⟨_, e, _⟩ := h; subst e; exact rfl) | (obtain ⟨_, _, e, _⟩ := h; subst e; exact rfl) | (obtain ⟨_, _, _, e, _⟩ := h; subst e; exact rfl) | (obtain ⟨_, _, _, _, e, _⟩ := h; subst e; exact rfl) | (obtain ⟨_, _, _, _, _, e, _⟩ := h; subst e; exact rfl) | (obtain ⟨_, _, _, _, _, _, e, _⟩ := h; subst e; exact rfl) | (obtain ⟨_, _, _, _, _, _, _, e, _⟩ := h; subst e; exact rfl) | (obtain ⟨_, _, _, _, _, _, _, _, e, _⟩ := h; subst e; exact rfl) | (obtain ⟨_, _, _, _, _, _, _, _, _, e, _⟩ := h; subst e; exact rfl) | (obtain ⟨_, _, _, _, _, _, _, _, _, _, e, _⟩ := h; subst e; exact rfl) | (obtain ⟨_, _, _, _, _, _, _, _, _, _, _, e, _⟩ := h; subst e; exact rfl) | (obtain ⟨_, _, _, _, _, _, _, _, _, _, _, _, e, _⟩ := h; subst e; exact rfl))) (fun cdv A outer s H vs Q E hr h => ?_)
  
  refine ⟨_, PSs.nox (pss_cons (ps_ret (pe_call (c_poly_from.F.mono (by decide)) hr rfl T.g_poly_from c_poly_from.kp c_poly_from.b .nil pass0 (pa_cons (pe_frz (q_disp (P := P) (w := w) (K := K) rfl rfl rfl hr.units (pps_cons (pe_call (c_powers_of.F.mono (by decide)) hr rfl T.g_powers_of c_powers_of.kp c_powers_of.b .nil pass0 (pa_cons (pv 0) (pa_cons (pv 1) pa_nil))) pe_int pps_nil) (by rfl) (by rfl) (fun z => by cases z) (by decide))) pa_nil))) pss_nil), ?_⟩
  refine read_of P w K h rfl fun rs k D hs hD hN => ?_
  obtain ⟨i, n, rfl, hk⟩ := hs
  (refine ws_retS (by assumption) ?_; refine we_call ?_; refine wa_cons ?_; (refine we_frzX ?_; refine wx_xdisp ?_); (first | refine wp_cons ?_ | refine wp_nil ?_); refine we_call ?_; refine wa_cons ?_; refine we_var rfl ?_; refine wa_cons ?_; refine we_var rfl ?_; refine wa_nil ?_)
  refine ⟨i, n, rfl, ?_⟩
  (refine ⟨_, rfl, ?_⟩; refine we_c ?_; (first | refine wp_cons ?_ | refine wp_nil ?_); refine ⟨Nat.le_of_ble_eq_true rfl, ?_⟩; refine wa_nil ?_)
  refine ⟨[(pwOf i n, 1)], rfl, fun e he => ?_, Nat.le_of_ble_eq_true rfl, hk⟩
  rw [List.mem_singleton.mp he]
  exact fun z => nomatch z
def Ne4 (ts : PT) : Prop := ∀ t ∈ ts, t.1.length = 4
def BdP (n : Nat) (ts : PT) : Prop := ∀ t ∈ ts, t.2.natAbs < 2 ^ n
def S_sum_with (P : Program) (w : World) (K : PySem.W.Frag) : Spc := fun rs k => ∃ (C1 C2 : Addr) (A B : PT) (s : Int) (n : Nat), rs = [rPT K C1 A, rPT K C2 B, rInt s] ∧ PolyC K C1 ∧ PolyC K C2 ∧ Ne4 A ∧ Ne4 B ∧ A.length + B.length ≤ 16777000 ∧ s.natAbs < 2 ∧ BdP n B ∧ 0 < n ∧ n ≤ 900000 ∧
  k (rPT K (CR K) (canon (sumP A B s)))
theorem gets (m : PT) (k : List Int) : (getM (mI m) k).getD (rInt 0) = rInt (cf m k) := by
  rw [show getM (mI m) k = (getM m k).map rInt from getM_map rInt m k]
  unfold cf
  cases getM m k <;> rfl
theorem putI (m : PT) (k : List Int) (c : Int) : putM (mI m) k (rInt c) = mI (putM m k c) := putM_map rInt m k c
theorem putM_keys {κ α : Type} [DecidableEq κ] {p : κ → Prop} {m : List (κ × α)} {k : κ} {a : α} (h : ∀ e ∈ m, p e.1) (hk : p k) : ∀ e ∈ putM m k a, p e.1 := by
  unfold putM
  split
  · intro e he
    obtain ⟨e', he', rfl⟩ := List.mem_map.mp he
    split
    · exact h e' he'
    · exact h e' he'
  · intro e he
    rcases List.mem_append.mp he with he | he
    · exact h e he
    · rw [List.mem_singleton.mp he]; exact hk
theorem foldl_keys {α : Type} {p : List Int → Prop} (L : List α) (f : PT → α → PT) (hf : ∀ m x, x ∈ L → (∀ e ∈ m, p e.1) → ∀ e ∈ f m x, p e.1) : ∀ m : PT, (∀ e ∈ m, p e.1) → ∀ e ∈ L.foldl f m, p e.1 := by
  induction L with
  | nil => intro m h; exact h
  | cons x L ih =>
    intro m h
    exact ih (fun m y hy => hf m y (List.mem_cons_of_mem _ hy)) (f m x) (hf m x (List.mem_cons_self ..) h)
theorem foldM_keys {p : List Int → Prop} {A : PT} (h : ∀ e ∈ A, p e.1) : ∀ e ∈ foldM A, p e.1 := foldl_keys A (fun acc e => putM acc e.1 e.2) (fun m x hx hm => putM_keys hm (h x hx)) [] (fun _ he => by cases he)
theorem sumP_keys {p : List Int → Prop} {A B : PT} {s : Int} (h : ∀ e ∈ A, p e.1) (h' : ∀ e ∈ B, p e.1) : ∀ e ∈ sumP A B s, p e.1 :=
  foldl_keys B (fun m t => putA m t.1 (s * t.2)) (fun m x hx hm => putM_keys hm (h' x hx)) _ (foldM_keys h)
theorem ok_sum_with {P : Program} {w : World} {K : PySem.W.Frag} {mg : Str → Option Value} {base : Heap} {f : Addr} {fd fd_poly_from : FuncData} (T : Txt K mg) (F : FunD K "sum_with" "sum_with" (defArgs s_sum_with) (defBody s_sum_with) (defScope s_sum_with) [] [] f fd) (c_poly_from : Callee P w K mg base (He.ga K "poly_from") fd_poly_from ["parts"] 3 (spOf (S_poly_from P w K)))  :
    FnOk P w K mg base CX0 4 f fd ["one", "other", "by"] (spOf (S_sum_with P w K)) := by
  refine F.ok sc_sum_with (len_of (by intro rs k h; first | (obtain ⟨e, _⟩ := h; subst e; exact rfl) | (obtain ⟨_, e, _⟩ := h; subst e; exact rfl) | (obtain ⟨_, _, e, _⟩ := h; subst e; exact rfl) | (obtain ⟨_, _, _, e, _⟩ := h; subst e; exact rfl) | (obtain ⟨_, _, _, _, e, _⟩ := h; subst e; exact rfl) | (obtain ⟨_, _, _, _, _, e, _⟩ := h; subst e; exact rfl) | (obtain ⟨_, _, _, _, _, _, e, _⟩ := h; subst e; exact rfl) | (obtain ⟨_, _, _, _, _, _, _, e, _⟩ := h; subst e; exact rfl) | (obtain ⟨_, _, _, _, _, _, _, _, e, _⟩ := h; subst e; exact rfl) | (obtain ⟨_, _, _, _, _, _, _, _, _, e, _⟩ := h; subst e; exact rfl) | (obtain ⟨_, _, _, _, _, _, _, _, _, _, e, _⟩ := h; subst e; exact rfl) | (obtain ⟨_, _, _, _, _, _, _, _, _, _, _, e, _⟩ := h; subst e; exact rfl) | (obtain ⟨_, _, _, _, _, _, _, _, _, _, _, _, e, _⟩ := h; subst e; exact rfl))) (fun cdv A outer s H vs Q E hr h => ?_)
  
  refine ⟨_, PSs.nox (pss_cons (q_setDc (i := 3) (own := [("powers", 4), ("count", 5)]) (g := gTup K 2 (gCons (gName 4) (gCons (gName 5) gNil))) (tt := tYes) (P := P) (w := w) (K := K) rfl rfl rfl hr.units rfl sc_sum_with.nd rfl rfl (sw_trueD rfl rfl rfl (by decide +kernel)) (q_tup (K := K) rfl (q_fld (K := K) rfl (pv 0) rfl)) (blkOk_by (own := [("powers", 4), ("count", 5)]) (N := ["one", "other", "by", "parts", "powers", "count"]) (sc := defScope s_sum_with) (by decide +kernel)) (fun _ _ _ _ _ => (q_gtup (K := K) rfl rfl (pgs_cons (pg_name (i := 4) sc_sum_with.nd rfl (by first | exact Or.inl rfl | exact Or.inr rfl)) (pgs_cons (pg_name (i := 5) sc_sum_with.nd rfl (by first | exact Or.inl rfl | exact Or.inr rfl)) pgs_nil)))) (fun _ _ _ _ _ => pts_nil) (fun _ _ _ _ _ => (pv 4)) (fun _ _ _ _ _ => (pv 5))) (pss_cons (ps_for PassesOwn.never rfl (q_tup (K := K) rfl (q_fld (K := K) rfl (pv 1) rfl)) (q_gtup (K := K) rfl rfl (pgs_cons (pg_name (i := 4) sc_sum_with.nd rfl (by first | exact Or.inl rfl | exact Or.inr rfl)) (pgs_cons (pg_name (i := 5) sc_sum_with.nd rfl (by first | exact Or.inl rfl | exact Or.inr rfl)) pgs_nil))) (pss_cons (q_put (P := P) (w := w) (K := K) rfl rfl rfl (hu_of hr) (pv 3) (pv 4) (pe_op op_add (q_get2 (P := P) (w := w) (K := K) rfl rfl rfl (hu_of hr) (pv 3) (pv 4) pe_int ⟨rfl, rfl, rfl, rfl⟩) (pe_op op_mulW (pv 2) (pv 5))) rfl) pss_nil)) (pss_frz 3 (pss_cons (ps_ret (pe_call (c_poly_from.F.mono (by decide)) hr rfl T.g_poly_from c_poly_from.kp c_poly_from.b .nil pass0 (pa_cons (pv 3) pa_nil))) pss_nil)))), ?_⟩
  refine read_of P w K h rfl fun rs k D hs hD hN => ?_
  obtain ⟨C1, C2, A', B', n, s, rfl, h1, h2, hA, hB, hz, hs1, hb, hn0, hn, hk⟩ := hs
  (refine ws_asgX ?_)
  refine wx_xdcF A' (g := fun t => rTup K [rKey K t.1, rInt t.2]) (fun t => (t.1, rInt t.2)) ?_
  (refine wi_tup ?_; refine we_fld ?_; refine we_var rfl ?_)
  refine ⟨C1, _, rTms K A', rfl, h1.cl, h1.na, rfl, _, rfl, by rw [List.length_map], fun i hi => getD_map hi, by rw [sizeLine_eq]; omega, fun x hx G st => ?_, ?_⟩
  · refine ⟨_, _, ?_, wg_tup rfl (wgs_cons wg_name (wgs_cons wg_name wgs_nil)), ?_⟩
    · intro j hj; exact hj
    · (refine we_var rfl ?_)
      refine ⟨rfl, ?_⟩
      (refine we_var rfl ?_)
      rfl
  rw [mI_foldM]
  refine ws_forF B' (g := fun t => rTup K [rKey K t.1, rInt t.2]) (foldM A') (fun m t => putA m t.1 (n * t.2)) (fun m => [.im (rPT K C1 A'), .im (rPT K C2 B'), .im (rInt n), .mx (mI m), .no, .no]) ?_
  (refine wi_tup ?_; refine we_fld ?_; refine we_var rfl ?_)
  refine ⟨C2, _, rTms K B', rfl, h2.cl, h2.na, rfl, _, rfl, by rw [List.length_map], fun i hi => getD_map hi, by (repeat' (first | exact Weak.nil | apply Weak.eq | apply Weak.no)), fun i hi G st => ?_, ?_⟩
  · generalize hm : (B'.take i).foldl (fun m t => putA m t.1 (n * t.2)) (foldM A') = m
    have hl : m.length < sizeLine := by
      have a := foldl_len (B'.take i) (fun m t => putA m t.1 (n * t.2)) (fun m x => putM_len m x.1 _) (foldM A')
      have b := foldM_len A'
      rw [hm, List.length_take] at a
      rw [sizeLine_eq]
      omega
    refine ⟨_, _, wg_tup rfl (wgs_cons wg_name (wgs_cons wg_name wgs_nil)), ?_⟩
    (refine ws_xput rfl ?_; refine we_op ?_; refine we_xget2 ?_; (first | refine wq_var rfl ?_ | refine wq_e ?_); refine we_var rfl ?_; refine ⟨_, rfl, ?_⟩; refine we_c ?_; refine we_op ?_; refine we_var rfl ?_; refine we_var rfl ?_; refine ot_I ?_ ?_)
    · exact wide_mul (a := 1) (by omega) (hb _ (List.getElem_mem hi)) (by decide) hn0 (by omega)
    · rw [gets]
      (refine ot_I0 ?_; refine we_var rfl ?_; refine ⟨_, rfl, ?_⟩)
      rw [putI]
      exact ⟨by rw [List.length_map]; exact hl, ws_nextW rfl (by (repeat' (first | exact Weak.nil | apply Weak.eq | apply Weak.no)))⟩
  · ((first | refine ws_frzX rfl ?_ | refine ws_frzL rfl ?_); refine ws_retS (by assumption) ?_; refine we_call ?_; refine wa_cons ?_; refine we_var rfl ?_; refine wa_nil ?_)
    refine ⟨sumP A' B' n, rfl, fun e he => ?_, ?_, hk⟩
    · have := sumP_keys (s := n) (p := fun k => k.length = 4) hA hB e he
      intro z
      rw [z] at this
      cases this
    · have := sumP_len A' B' n
      rw [sizeLine_eq]
      omega
end Lw
set_option Elab.async false
set_option linter.all false
set_option maxRecDepth 100000
set_option maxHeartbeats 1000000
namespace Lw
open PySem PySem.Spec PyProof.Rows L2 BX
def S_plus (P : Program) (w : World) (K : PySem.W.Frag) : Spc := fun rs k => ∃ (C1 C2 : Addr) (A B : PT) (n : Nat), rs = [rPT K C1 A, rPT K C2 B] ∧ PolyC K C1 ∧ PolyC K C2 ∧ Ne4 A ∧ Ne4 B ∧ A.length + B.length ≤ 16777000 ∧ BdP n B ∧ 0 < n ∧ n ≤ 900000 ∧
  k (rPT K (CR K) (canon (sumP A B 1)))
def S_minus (P : Program) (w : World) (K : PySem.W.Frag) : Spc := fun rs k => ∃ (C1 C2 : Addr) (A B : PT) (n : Nat), rs = [rPT K C1 A, rPT K C2 B] ∧ PolyC K C1 ∧ PolyC K C2 ∧ Ne4 A ∧ Ne4 B ∧ A.length + B.length ≤ 16777000 ∧ BdP n B ∧ 0 < n ∧ n ≤ 900000 ∧
  k (rPT K (CR K) (canon (sumP A B (-1))))
theorem ok_plus {P : Program} {w : World} {K : PySem.W.Frag} {mg : Str → Option Value} {base : Heap} {f : Addr} {fd fd_sum_with : FuncData} (T : Txt K mg) (F : FunD K "plus" "plus" (defArgs s_plus) (defBody s_plus) (defScope s_plus) [] [] f fd) (c_sum_with : Callee P w K mg base (He.ga K "sum_with") fd_sum_with ["one", "other", "by"] 4 (spOf (S_sum_with P w K)))  :
    FnOk P w K mg base CX0 5 f fd ["one", "other"] (spOf (S_plus P w K)) := by
  refine F.ok sc_plus (len_of (by intro rs k h; first | (obtain ⟨e, _⟩ := h; subst e; exact rfl) | (obtain ⟨_, e, _⟩ := h; subst e; exact rfl) | (obtain ⟨_, _, e, _⟩ := h; subst e; exact rfl) | (obtain ⟨_, _, _, e, _⟩ := h; subst e; exact rfl) | (obtain ⟨_, _, _, _, e, _⟩ := h; subst e; exact rfl) | (obtain ⟨_, _, _, _, _, e, _⟩ := h; subst e; exact rfl) | (obtain ⟨_, _, _, _, _, _, e, _⟩ := h; subst e; exact rfl) | (obtain ⟨_, _, _, _, _, _, _, e, _⟩ := h; subst e; exact rfl) | (obtain ⟨_, _, _, _, _, _, _, _, e, _⟩ := h; subst e; exact rfl) | (obtain ⟨_, _, _, _, _, _, _, _, _, e, _⟩ := h; subst e; exact rfl) | (obtain ⟨_, _, _, _, _, _, _, _, _, _, e, _⟩ := h; subst e; exact rfl) | (obtain ⟨_, _, _, _, _, _, _, _, _, _, _, e, _⟩ := h; subst e; exact rfl) | (obtain ⟨_, _, _, _, _, _, _, _, _, _, _, _, e, _⟩ := h; subst e; exact rfl))) (fun cdv A outer s H vs Q E hr h => ?_)
  
  refine ⟨_, PSs.nox (pss_cons (ps_ret (pe_call (c_sum_with.F.mono (by decide)) hr rfl T.g_sum_with c_sum_with.kp c_sum_with.b .nil pass0 (pa_cons (pv 0) (pa_cons (pv 1) (pa_cons pe_int pa_nil))))) pss_nil), ?_⟩
  refine read_of P w K h rfl fun rs k D hs hD hN => ?_
  obtain ⟨C1, C2, A', B', n, rfl, h1, h2, hA, hB, hz, hb, hn0, hn, hk⟩ := hs
  (refine ws_retS (by assumption) ?_; refine we_call ?_; refine wa_cons ?_; refine we_var rfl ?_; refine wa_cons ?_; refine we_var rfl ?_; refine wa_cons ?_; refine we_c ?_; refine wa_nil ?_)
  exact ⟨C1, C2, A', B', 1, n, rfl, h1, h2, hA, hB, hz, by decide, hb, hn0, hn, hk⟩
theorem ok_minus {P : Program} {w : World} {K : PySem.W.Frag} {mg : Str → Option Value} {base : Heap} {f : Addr} {fd fd_sum_with : FuncData} (T : Txt K mg) (F : FunD K "minus" "minus" (defArgs s_minus) (defBody s_minus) (defScope s_minus) [] [] f fd) (c_sum_with : Callee P w K mg base (He.ga K "sum_with") fd_sum_with ["one", "other", "by"] 4 (spOf (S_sum_with P w K)))  :
    FnOk P w K mg base CX0 5 f fd ["one", "other"] (spOf (S_minus P w K)) := by
  refine F.ok sc_minus (len_of (by intro rs k h; first | (obtain ⟨e, _⟩ := h; subst e; exact rfl) | (obtain ⟨_, e, _⟩ := h; subst e; exact rfl) | (obtain ⟨_, _, e, _⟩ := h; subst e; exact rfl) | (obtain ⟨_, _, _, e, _⟩ := h; subst e; exact rfl) | (obtain ⟨_, _, _, _, e, _⟩ := h; subst e; exact rfl) | (obtain ⟨_, _, _, _, _, e, _⟩ := h; subst e; exact rfl) | (obtain ⟨_, _, _, _, _, _, e, _⟩ := h; subst e; exact rfl) | (obtain ⟨_, _, _, _, _, _, _, e, _⟩ := h; subst e; exact rfl) | (obtain ⟨_, _, _, _, _, _, _, _, e, _⟩ := h; subst e; exact rfl) | (obtain ⟨_, _, _, _, _, _, _, _, _, e, _⟩ := h; subst e; exact rfl) | (obtain ⟨_, _, _, _, _, _, _, _, _, _, e, _⟩ := h; subst e; exact rfl) | (obtain ⟨_, _, _, _, _, _, _, _, _, _, _, e, _⟩ := h; subst e; exact rfl) | (obtain ⟨_, _, _, _, _, _, _, _, _, _, _, _, e, _⟩ := h; subst e; exact rfl))) (fun cdv A outer s H vs Q E hr h => ?_)
  
  refine ⟨_, PSs.nox (pss_cons (ps_ret (pe_call (c_sum_with.F.mono (by decide)) hr rfl T.g_sum_with c_sum_with.kp c_sum_with.b .nil pass0 (pa_cons (pv 0) (pa_cons (pv 1) (pa_cons (pe_un un_neg pe_int) pa_nil))))) pss_nil), ?_⟩
  refine read_of P w K h rfl fun rs k D hs hD hN => ?_
  obtain ⟨C1, C2, A', B', n, rfl, h1, h2, hA, hB, hz, hb, hn0, hn, hk⟩ := hs
  (refine ws_retS (by assumption) ?_; refine we_call ?_; refine wa_cons ?_; refine we_var rfl ?_; refine wa_cons ?_; refine we_var rfl ?_; refine wa_cons ?_; refine we_un ?_; refine we_c ?_; refine ut_I ?_; refine wa_nil ?_)
  exact ⟨C1, C2, A', B', -1, n, rfl, h1, h2, hA, hB, hz, by decide, hb, hn0, hn, hk⟩
/-- keys of the product are few -/
def FitM (A B : PT) : Prop := ∀ m : PT, (m.map (·.1)).Nodup → (∀ e ∈ m, ∃ a ∈ A, ∃ b ∈ B, e.1 = add4 a.1 b.1) → m.length < sizeLine
def S_times (P : Program) (w : World) (K : PySem.W.Frag) : Spc := fun rs k => ∃ (C1 C2 : Addr) (A B : PT) (n : Nat), rs = [rPT K C1 A, rPT K C2 B] ∧ PolyC K C1 ∧ PolyC K C2 ∧ Ne4 A ∧ Ne4 B ∧ FitM A B ∧ BdP n A ∧ BdP n B ∧ 0 < n ∧ n ≤ 450000 ∧
  k (rPT K (CR K) (canon (mulP A B)))
theorem putM_nodup {κ α : Type} [DecidableEq κ] {m : List (κ × α)} {k : κ} {a : α} (h : (m.map (·.1)).Nodup) : ((putM m k a).map (·.1)).Nodup := by
  unfold putM
  split
  · rw [List.map_map]
    have e : ((fun x : κ × α => x.1) ∘ fun e : κ × α => if e.1 = k then (e.1, a) else e) = fun e => e.1 := by
      funext e
      show (if e.1 = k then (e.1, a) else e).1 = e.1
      split <;> rfl
    rw [e]
    exact h
  · rename_i c
    rw [List.map_append, List.nodup_append]
    refine ⟨h, by simp, fun x hx y hy => ?_⟩
    have hy' : y = k := by simpa using hy
    subst hy'
    intro z
    subst z
    apply c
    obtain ⟨e, he, rfl⟩ := List.mem_map.mp hx
    clear h c hx
    induction m with
    | nil => cases he
    | cons d m ih =>
      rw [getM_cons]
      by_cases q : d.1 = e.1
      · rw [if_pos q]; rfl
      · rw [if_neg q]
        rcases List.mem_cons.mp he with he | he
        · rw [he] at q; exact absurd rfl q
        · exact ih he
theorem foldl_inv {α σ : Type} {p : σ → Prop} (L : List α) (f : σ → α → σ) (hf : ∀ m x, x ∈ L → p m → p (f m x)) : ∀ m : σ, p m → p (L.foldl f m) := by
  induction L with
  | nil => intro m h; exact h
  | cons x L ih =>
    intro m h
    exact ih (fun m y hy => hf m y (List.mem_cons_of_mem _ hy)) (f m x) (hf m x (List.mem_cons_self ..) h)
/-- what stands in the table while a product is made -/
def MulI (A B m : PT) : Prop := (m.map (·.1)).Nodup ∧ ∀ e ∈ m, ∃ a ∈ A, ∃ b ∈ B, e.1 = add4 a.1 b.1
theorem mulI_put {A B m : PT} (h : MulI A B m) {a b : List Int × Int} (ha : a ∈ A) (hb : b ∈ B) (c : Int) : MulI A B (putA m (add4 a.1 b.1) c) :=
  ⟨putM_nodup h.1, putM_keys (p := fun k => ∃ a ∈ A, ∃ b ∈ B, k = add4 a.1 b.1) h.2 ⟨a, ha, b, hb, rfl⟩⟩
theorem mulI_row {A B m : PT} (h : MulI A B m) {a : List Int × Int} (ha : a ∈ A) (B' : PT) (hB : ∀ b ∈ B', b ∈ B) : MulI A B (mulRow a B' m) :=
  foldl_inv (p := MulI A B) B' (fun m b => putA m (add4 a.1 b.1) (a.2 * b.2)) (fun m b hb hm => mulI_put hm ha (hB b hb) _) m h
theorem mulI_all {A B : PT} (A' : PT) (hA : ∀ a ∈ A', a ∈ A) : MulI A B (A'.foldl (fun m a => mulRow a B m) []) :=
  foldl_inv (p := MulI A B) A' (fun m a => mulRow a B m) (fun m a ha hm => mulI_row hm (hA a ha) B fun _ h => h) [] ⟨List.nodup_nil, fun _ he => by cases he⟩
theorem getD_key {k : List Int} {i : Nat} (h : i < k.length) : atI (k.map rInt) (i : Int) = some (rInt (k.getD i 0)) := by
  refine atI_nat ?_
  rw [List.getElem?_map, List.getElem?_eq_getElem h, List.getD_eq_getElem?_getD, List.getElem?_eq_getElem h]
  rfl
theorem ok_times {P : Program} {w : World} {K : PySem.W.Frag} {mg : Str → Option Value} {base : Heap} {f : Addr} {fd fd_poly_from : FuncData} (T : Txt K mg) (F : FunD K "times" "times" (defArgs s_times) (defBody s_times) (defScope s_times) [] [] f fd) (c_poly_from : Callee P w K mg base (He.ga K "poly_from") fd_poly_from ["parts"] 3 (spOf (S_poly_from P w K)))  :
    FnOk P w K mg base CX0 4 f fd ["one", "other"] (spOf (S_times P w K)) := by
  refine F.ok sc_times (len_of (by intro rs k h; first | (obtain ⟨e, _⟩ := h; subst e; exact rfl) | (obtain ⟨_, e, _⟩ := h; subst e; exact rfl) | (obtain ⟨_, _, e, _⟩ := h; subst e; exact rfl) | (obtain ⟨_, _, _, e, _⟩ := h; subst e; exact rfl) | (obtain ⟨_, _, _, _, e, _⟩ := h; subst e; exact rfl) | (obtain ⟨_, _, _, _, _, e, _⟩ := h; subst e; exact rfl) | (obtain ⟨_, _, _, _, _, _, e, _⟩ := h; subst e; exact rfl) | (obtain ⟨_, _, _, _, _, _, _, e, _⟩ := h; subst e; exact rfl) | (obtain ⟨_, _, _, _, _, _, _, _, e, _⟩ := h; subst e; exact rfl) | (obtain ⟨_, _, _, _, _, _, _, _, _, e, _⟩ := h; subst e; exact rfl) | (obtain ⟨_, _, _, _, _, _, _, _, _, _, e, _⟩ := h; subst e; exact rfl) | (obtain ⟨_, _, _, _, _, _, _, _, _, _, _, e, _⟩ := h; subst e; exact rfl) | (obtain ⟨_, _, _, _, _, _, _, _, _, _, _, _, e, _⟩ := h; subst e; exact rfl))) (fun cdv A outer s H vs Q E hr h => ?_)
  
  refine ⟨_, PSs.nox (pss_cons (ps_set (i := 2) sc_times.nd rfl (by first | exact Or.inl rfl | exact Or.inr rfl) (q_new (P := P) (w := w) rfl rfl)) (pss_cons (ps_for PassesOwn.never rfl (q_tup (K := K) rfl (q_fld (K := K) rfl (pv 0) rfl)) (q_gtup (K := K) rfl rfl (pgs_cons (pg_name (i := 3) sc_times.nd rfl (by first | exact Or.inl rfl | exact Or.inr rfl)) (pgs_cons (pg_name (i := 4) sc_times.nd rfl (by first | exact Or.inl rfl | exact Or.inr rfl)) pgs_nil))) (pss_cons (ps_for PassesOwn.never rfl (q_tup (K := K) rfl (q_fld (K := K) rfl (pv 1) rfl)) (q_gtup (K := K) rfl rfl (pgs_cons (pg_name (i := 5) sc_times.nd rfl (by first | exact Or.inl rfl | exact Or.inr rfl)) (pgs_cons (pg_name (i := 6) sc_times.nd rfl (by first | exact Or.inl rfl | exact Or.inr rfl)) pgs_nil))) (pss_cons (ps_set (i := 7) sc_times.nd rfl (by first | exact Or.inl rfl | exact Or.inr rfl) (pe_tup (pa_cons (pe_op op_add (pe_ix (k_ixT (K := K) rfl) (pv 3) pe_int (fun _ _ => rfl)) (pe_ix (k_ixT (K := K) rfl) (pv 5) pe_int (fun _ _ => rfl))) (pa_cons (pe_op op_add (pe_ix (k_ixT (K := K) rfl) (pv 3) pe_int (fun _ _ => rfl)) (pe_ix (k_ixT (K := K) rfl) (pv 5) pe_int (fun _ _ => rfl))) (pa_cons (pe_op op_add (pe_ix (k_ixT (K := K) rfl) (pv 3) pe_int (fun _ _ => rfl)) (pe_ix (k_ixT (K := K) rfl) (pv 5) pe_int (fun _ _ => rfl))) (pa_cons (pe_op op_add (pe_ix (k_ixT (K := K) rfl) (pv 3) pe_int (fun _ _ => rfl)) (pe_ix (k_ixT (K := K) rfl) (pv 5) pe_int (fun _ _ => rfl))) pa_nil)))))) (pss_cons (q_put (P := P) (w := w) (K := K) rfl rfl rfl (hu_of hr) (pv 2) (pv 7) (pe_op op_add (q_get2 (P := P) (w := w) (K := K) rfl rfl rfl (hu_of hr) (pv 2) (pv 7) pe_int ⟨rfl, rfl, rfl, rfl⟩) (pe_op op_mulW (pv 4) (pv 6))) rfl) pss_nil))) pss_nil)) (pss_frz 2 (pss_cons (ps_ret (pe_call (c_poly_from.F.mono (by decide)) hr rfl T.g_poly_from c_poly_from.kp c_poly_from.b .nil pass0 (pa_cons (pv 2) pa_nil))) pss_nil)))), ?_⟩
  refine read_of P w K h rfl fun rs k D hs hD hN => ?_
  obtain ⟨C1, C2, A', B', n, rfl, h1, h2, hA, hB, hz, hb1, hb2, hn0, hn, hk⟩ := hs
  (refine ws_asgX ?_; refine wx_new ?_)
  refine ws_forF A' (g := fun t => rTup K [rKey K t.1, rInt t.2]) ([] : PT) (fun m a => mulRow a B' m) (fun m => [.im (rPT K C1 A'), .im (rPT K C2 B'), .mx (mI m), .no, .no, .no, .no, .no]) ?_
  (refine wi_tup ?_; refine we_fld ?_; refine we_var rfl ?_)
  refine ⟨C1, _, rTms K A', rfl, h1.cl, h1.na, rfl, _, rfl, by rw [List.length_map], fun i hi => getD_map hi, by (repeat' (first | exact Weak.nil | apply Weak.eq | apply Weak.no)), fun i hi G st => ?_, ?_⟩
  · generalize hm : (A'.take i).foldl (fun m a => mulRow a B' m) [] = m
    have hI : MulI A' B' m := by rw [← hm]; exact mulI_all (A'.take i) fun a ha => List.mem_of_mem_take ha
    have ha : A'[i] ∈ A' := List.getElem_mem hi
    refine ⟨_, _, wg_tup rfl (wgs_cons wg_name (wgs_cons wg_name wgs_nil)), ?_⟩
    refine ws_forF B' (g := fun t => rTup K [rKey K t.1, rInt t.2]) m (fun m b => putA m (add4 A'[i].1 b.1) (A'[i].2 * b.2)) (fun m => [.im (rPT K C1 A'), .im (rPT K C2 B'), .mx (mI m), .im (rKey K A'[i].1), .im (rInt A'[i].2), .no, .no, .no]) ?_
    (refine wi_tup ?_; refine we_fld ?_; refine we_var rfl ?_)
    refine ⟨C2, _, rTms K B', rfl, h2.cl, h2.na, rfl, _, rfl, by rw [List.length_map], fun i hi => getD_map hi, by (repeat' (first | exact Weak.nil | apply Weak.eq | apply Weak.no)), fun j hj G' st' => ?_, ?_⟩
    · generalize hm' : (B'.take j).foldl (fun m b => putA m (add4 A'[i].1 b.1) (A'[i].2 * b.2)) m = m'
      have hI' : MulI A' B' m' := by rw [← hm']; exact mulI_row hI ha (B'.take j) fun b hb => List.mem_of_mem_take hb
      have hb : B'[j] ∈ B' := List.getElem_mem hj
      have hl := hz m' hI'.1 hI'.2
      have la := hA _ ha
      have lb := hB _ hb
      refine ⟨_, _, wg_tup rfl (wgs_cons wg_name (wgs_cons wg_name wgs_nil)), ?_⟩
      ((first | refine ws_asg ?_ | refine ws_asgG ?_); refine we_tup ?_; refine wa_cons ?_; refine we_op ?_; refine we_op ?_; refine we_var rfl ?_; refine we_c ?_)
      refine ot_ixT (getD_key (i := 0) (by omega)) ?_
      (refine we_op ?_; refine we_var rfl ?_; refine we_c ?_)
      refine ot_ixT (getD_key (i := 0) (by omega)) ?_
      (refine ot_I0 ?_; refine wa_cons ?_; refine we_op ?_; refine we_op ?_; refine we_var rfl ?_; refine we_c ?_)
      refine ot_ixT (getD_key (i := 1) (by omega)) ?_
      (refine we_op ?_; refine we_var rfl ?_; refine we_c ?_)
      refine ot_ixT (getD_key (i := 1) (by omega)) ?_
      (refine ot_I0 ?_; refine wa_cons ?_; refine we_op ?_; refine we_op ?_; refine we_var rfl ?_; refine we_c ?_)
      refine ot_ixT (getD_key (i := 2) (by omega)) ?_
      (refine we_op ?_; refine we_var rfl ?_; refine we_c ?_)
      refine ot_ixT (getD_key (i := 2) (by omega)) ?_
      (refine ot_I0 ?_; refine wa_cons ?_; refine we_op ?_; refine we_op ?_; refine we_var rfl ?_; refine we_c ?_)
      refine ot_ixT (getD_key (i := 3) (by omega)) ?_
      (refine we_op ?_; refine we_var rfl ?_; refine we_c ?_)
      refine ot_ixT (getD_key (i := 3) (by omega)) ?_
      (refine ot_I0 ?_; refine wa_nil ?_; refine ⟨Nat.le_of_ble_eq_true rfl, ?_⟩; refine ws_xput rfl ?_; refine we_op ?_; refine we_xget2 ?_; (first | refine wq_var rfl ?_ | refine wq_e ?_); refine we_var rfl ?_)
      refine ⟨add4 A'[i].1 B'[j].1, rfl, ?_⟩
      (refine we_c ?_; refine we_op ?_; refine we_var rfl ?_; refine we_var rfl ?_; refine ot_I ?_ ?_)
      · exact wide_mul (hb1 _ ha) (hb2 _ hb) hn0 hn0 (by omega)
      · rw [gets]
        (refine ot_I0 ?_; refine we_var rfl ?_)
        refine ⟨add4 A'[i].1 B'[j].1, rfl, by rw [List.length_map]; exact hl, ?_⟩
        rw [putI]
        exact ws_nextW rfl (by (repeat' (first | exact Weak.nil | apply Weak.eq | apply Weak.no)))
    · exact ws_nextW rfl (by (repeat' (first | exact Weak.nil | apply Weak.eq | apply Weak.no)))
  · ((first | refine ws_frzX rfl ?_ | refine ws_frzL rfl ?_); refine ws_retS (by assumption) ?_; refine we_call ?_; refine wa_cons ?_; refine we_var rfl ?_; refine wa_nil ?_)
    refine ⟨mulP A' B', rfl, fun e he => ?_, ?_, hk⟩
    · obtain ⟨a, _, b, _, e4⟩ := (mulI_all (A := A') (B := B') A' fun _ h => h).2 e he
      rw [e4]
      exact fun z => nomatch z
    · have q := mulI_all (A := A') (B := B') A' fun _ h => h
      exact Nat.le_of_lt (hz _ q.1 q.2)
end Lw
set_option Elab.async false
set_option linter.all false
set_option maxRecDepth 100000
set_option maxHeartbeats 1000000
namespace Lw
open PySem PySem.Spec PyProof.Rows L2 BX
theorem fit_of {b c : B4} {A B : PT} (hA : Bx b A) (hB : Bx c B) (h : (b.add c).vol < 16777216) : FitM A B := fun m nd hm => by
  have := box_few (B := b.add c) nd fun k hk => by
    obtain ⟨e, he, rfl⟩ := List.mem_map.mp hk
    obtain ⟨a, ha, b, hb, e4⟩ := hm e he
    rw [e4]
    exact (hA a ha).add (hB b hb)
  rw [List.length_map] at this
  rw [sizeLine_eq]
  omega
theorem bdP_of {n m : Nat} {A : PT} (h : l1 A ≤ n) (hn : n < 2 ^ m) : BdP m A := fun t ht => Nat.lt_of_le_of_lt (l1_mem ht) (Nat.lt_of_le_of_lt h hn)
theorem bx_ne {b : B4} {A : PT} (h : Bx b A) : Ne4 A := fun e he => (h e he).len
/-- what times is asked -/
theorem times_of {P : Program} {w : World} {K : PySem.W.Frag} {C1 C2 : Addr} {A B : PT} {b c : B4} {n m : Nat} {k : Rel → Prop} (h1 : PolyC K C1) (h2 : PolyC K C2) (hA : PB b n A) (hB : PB c m B) (hv : (b.add c).vol < 16777216) (hn : n < 2 ^ 450000) (hm : m < 2 ^ 450000)
    (hk : k (rPT K (CR K) (tm A B))) : S_times P w K [rPT K C1 A, rPT K C2 B] k :=
  ⟨C1, C2, A, B, 450000, rfl, h1, h2, bx_ne hA.bx, bx_ne hB.bx, fit_of hA.bx hB.bx hv, bdP_of hA.l hn, bdP_of hB.l hm, by decide, Nat.le_refl _, hk⟩
def S_power_of (P : Program) (w : World) (K : PySem.W.Frag) : Spc := fun rs k => ∃ (C : Addr) (B : PT) (n : Nat) (b : B4) (L : Nat), rs = [rPT K C B, rInt (n : Int)] ∧ PolyC K C ∧ PolyC K (CR K) ∧ PB b L B ∧ 0 < L ∧ (B4.mul n b).vol < 16777216 ∧ L ^ n < 2 ^ 450000 ∧
  k (rPT K (CR K) (pwL n one4 B n))
theorem canon_single {k : List Int} {c : Int} (h : c ≠ 0) : canon [(k, c)] = [(k, c)] := by
  unfold canon
  rw [List.map_cons, List.map_nil, List.mergeSort_singleton]
  have : canonF [(k, c)] k = some (k, c) := by
    unfold canonF cf
    rw [getM_cons, if_pos rfl]
    exact if_neg h
  simp [this]
theorem canon_one : canon [([0, 0, 0, 0], 1)] = one4 := canon_single (by decide)
theorem fdiv2 (m : Nat) : (m : Int).fdiv 2 = ((m / 2 : Nat) : Int) := by
  rw [Int.fdiv_eq_ediv_of_nonneg _ (by decide)]
  omega
end Lw
set_option Elab.async false
set_option linter.all false
set_option maxRecDepth 100000
set_option maxHeartbeats 1000000
namespace Lw
open PySem PySem.Spec PyProof.Rows L2 BX
def degL (ns : List Int) : Nat := ns.foldr (fun x m => max x.toNat m) 0
def degP (A : PT) (i : Nat) : Nat := degL (A.map fun t => t.1.getD i 0)
theorem degL_mem : ∀ {ns : List Int} {y : Int}, y ∈ ns → y.toNat ≤ degL ns
  | [], _, h => by cases h
  | x :: ns, y, h => by
    show _ ≤ max x.toNat (degL ns)
    rcases List.mem_cons.mp h with rfl | h
    · exact Nat.le_max_left ..
    · exact Nat.le_trans (degL_mem h) (Nat.le_max_right ..)
theorem degL_in : ∀ (ns : List Int), degL ns = 0 ∨ ∃ y ∈ ns, y.toNat = degL ns
  | [] => .inl rfl
  | x :: ns => by
    show max x.toNat (degL ns) = 0 ∨ _
    rcases Nat.le_total x.toNat (degL ns) with h | h
    · rcases degL_in ns with g | ⟨y, hy, e⟩
      · left; omega
      · right
        refine ⟨y, List.mem_cons_of_mem _ hy, ?_⟩
        show _ = max x.toNat (degL ns)
        omega
    · right
      refine ⟨x, List.mem_cons_self .., ?_⟩
      show _ = max x.toNat (degL ns)
      omega
theorem degL_max {ns : List Int} (h : ∀ y ∈ ns, 0 ≤ y) {m : Int} (hm : m ∈ (0 : Int) :: ns) (hq : ∀ y, y ∈ (0 : Int) :: ns → y ≤ m) : m = (degL ns : Int) := by
  have h0 : 0 ≤ m := hq 0 (List.mem_cons_self ..)
  rcases degL_in ns with g | ⟨y, hy, e⟩
  · rcases List.mem_cons.mp hm with z | z
    · omega
    · have := degL_mem z
      omega
  · have h1 := hq y (List.mem_cons_of_mem _ hy)
    have h2 := h y hy
    rcases List.mem_cons.mp hm with z | z
    · omega
    · have := degL_mem z
      omega
theorem In.nn {b : B4} {k : List Int} (h : In b k) (i : Nat) : 0 ≤ k.getD i 0 := by
  obtain ⟨x, y, z, u, rfl, _⟩ := h
  match i with
  | 0 => exact Int.natCast_nonneg x
  | 1 => exact Int.natCast_nonneg y
  | 2 => exact Int.natCast_nonneg z
  | 3 => exact Int.natCast_nonneg u
  | n + 4 => exact Int.le_refl 0
def S_degree_by (P : Program) (w : World) (K : PySem.W.Frag) : Spc := fun rs k => ∃ (C : Addr) (A : PT) (b : B4) (i : Nat), rs = [rPT K C A, rInt (i : Int)] ∧ PolyC K C ∧ Bx b A ∧ i < 4 ∧ A.length ≤ 16777000 ∧ k (rInt (degP A i))
theorem ok_degree_by {P : Program} {w : World} {K : PySem.W.Frag} {mg : Str → Option Value} {base : Heap} {f : Addr} {fd : FuncData} (T : Txt K mg) (F : FunD K "degree_by" "degree_by" (defArgs s_degree_by) (defBody s_degree_by) (defScope s_degree_by) [] [] f fd)   :
    FnOk P w K mg base CX0 1 f fd ["poly", "k"] (spOf (S_degree_by P w K)) := by
  refine F.ok sc_degree_by (len_of (by intro rs k h; first | (obtain ⟨e, _⟩ := h; subst e; exact rfl) | (obtain ⟨_, e, _⟩ := h; subst e; exact rfl) | (obtain ⟨_, _, e, _⟩ := h; subst e; exact rfl) | (obtain ⟨_, _, _, e, _⟩ := h; subst e; exact rfl) | (obtain ⟨_, _, _, _, e, _⟩ := h; subst e; exact rfl) | (obtain ⟨_, _, _, _, _, e, _⟩ := h; subst e; exact rfl) | (obtain ⟨_, _, _, _, _, _, e, _⟩ := h; subst e; exact rfl) | (obtain ⟨_, _, _, _, _, _, _, e, _⟩ := h; subst e; exact rfl) | (obtain ⟨_, _, _, _, _, _, _, _, e, _⟩ := h; subst e; exact rfl) | (obtain ⟨_, _, _, _, _, _, _, _, _, e, _⟩ := h; subst e; exact rfl) | (obtain ⟨_, _, _, _, _, _, _, _, _, _, e, _⟩ := h; subst e; exact rfl) | (obtain ⟨_, _, _, _, _, _, _, _, _, _, _, e, _⟩ := h; subst e; exact rfl) | (obtain ⟨_, _, _, _, _, _, _, _, _, _, _, _, e, _⟩ := h; subst e; exact rfl))) (fun cdv A outer s H vs Q E hr h => ?_)
  
  refine ⟨_, PSs.nox (pss_cons (ps_ret (pe_callB (k_max (K := K) rfl rfl) rfl T.b_max boot_max (pa_cons (pe_frz (pe_op op_cat (pe_lst (pa_cons pe_int pa_nil)) (pe_lc (own := [("powers", 2), ("count", 3)]) (g := gTup K 2 (gCons (gName 2) (gCons (gName 3) gNil))) (tt := tYes) rfl sc_degree_by.nd (q_tup (K := K) rfl (q_fld (K := K) rfl (pv 0) rfl)) (blkOk_by (own := [("powers", 2), ("count", 3)]) (N := ["poly", "k", "powers", "count"]) (sc := defScope s_degree_by) (by decide +kernel)) (fun _ _ _ _ _ => (q_gtup (K := K) rfl rfl (pgs_cons (pg_name (i := 2) sc_degree_by.nd rfl (by first | exact Or.inl rfl | exact Or.inr rfl)) (pgs_cons (pg_name (i := 3) sc_degree_by.nd rfl (by first | exact Or.inl rfl | exact Or.inr rfl)) pgs_nil)))) (fun _ _ _ _ _ => pts_nil) (fun _ _ _ _ _ => (pe_ix (k_ixT (K := K) rfl) (pv 2) (pv 1) (fun _ _ => rfl)))))) pa_nil))) pss_nil), ?_⟩
  refine read_of P w K h rfl fun rs k D hs hD hN => ?_
  obtain ⟨C, A', b, i, rfl, hC, hA, hi, hz, hk⟩ := hs
  (refine ws_retS (by assumption) ?_; (first | refine we_cb ?_ | refine we_xlen ?_); refine wa_cons ?_; (refine we_frzL ?_; refine wl_cat ?_); refine wl_lst ?_; refine wa_cons ?_; refine we_c ?_; refine wa_nil ?_; refine ⟨Nat.le_of_ble_eq_true rfl, ?_⟩)
  refine wl_lcM A' (g := fun t => rTup K [rKey K t.1, rInt t.2]) (h := fun t => rInt (t.1.getD i 0)) ?_
  (refine wi_tup ?_; refine we_fld ?_; refine we_var rfl ?_)
  refine ⟨C, _, rTms K A', rfl, hC.cl, hC.na, rfl, _, rfl, by rw [List.length_map], fun j hj => getD_map hj, by unfold sizeLine; omega, fun t ht G st => ?_, ?_⟩
  · refine ⟨_, _, ?_, wg_tup rfl (wgs_cons wg_name (wgs_cons wg_name wgs_nil)), ?_⟩
    · intro j hj; exact hj
    · have := (hA t ht).len
      (refine we_op ?_; refine we_var rfl ?_; refine we_var rfl ?_)
      refine ot_ixT (getD_key (i := i) (by omega)) ?_
      rfl
  · have hz' : ([rC (V.int 0)] : List Rel).length + (A'.map fun t => rInt (t.1.getD i 0)).length ≤ sizeLine := by
      rw [List.length_map]; unfold sizeLine; show 1 + _ ≤ _; omega
    refine ⟨hz', ?_⟩
    (refine wa_nil ?_)
    rw [show ([rC (V.int 0)] ++ A'.map fun t => rInt (t.1.getD i 0)) = ((0 : Int) :: A'.map fun t => t.1.getD i 0).map rInt by rw [List.map_cons, List.map_map]; rfl]
    refine ct_max (Nat.succ_pos _) fun m hm hle => ?_
    rw [degL_max (fun y hy => ?_) hm hle]
    · exact hk
    · obtain ⟨t, ht, rfl⟩ := List.mem_map.mp hy
      exact (hA t ht).nn i
def S_without (P : Program) (w : World) (K : PySem.W.Frag) : Spc := fun rs k => ∃ (p : List Int) (i : Nat), rs = [rKey K p, rInt (i : Int)] ∧ p.length = 4 ∧ i < 4 ∧ k (rKey K (p.set i 0))
theorem without_len {p : List Int} {i : Nat} (hp : p.length = 4) (hi : i < 4) : (cutR (List.map rInt p) none (some (i : Int))).length + ([rC (V.int 0)] : List Rel).length ≤ sizeLine := by
  match p, hp with
  | [a, b, c, d], _ =>
    match i, hi with
    | 0, _ => exact Nat.le_of_ble_eq_true rfl
    | 1, _ => exact Nat.le_of_ble_eq_true rfl
    | 2, _ => exact Nat.le_of_ble_eq_true rfl
    | 3, _ => exact Nat.le_of_ble_eq_true rfl
theorem without_len2 {p : List Int} {i : Nat} (hp : p.length = 4) (hi : i < 4) : (cutR (List.map rInt p) none (some (i : Int)) ++ [rC (V.int 0)]).length + (cutR (List.map rInt p) (some ((i : Int) + 1)) none).length ≤ sizeLine := by
  match p, hp with
  | [a, b, c, d], _ =>
    match i, hi with
    | 0, _ => exact Nat.le_of_ble_eq_true rfl
    | 1, _ => exact Nat.le_of_ble_eq_true rfl
    | 2, _ => exact Nat.le_of_ble_eq_true rfl
    | 3, _ => exact Nat.le_of_ble_eq_true rfl
theorem without_eq {K : PySem.W.Frag} {p : List Int} {i : Nat} (hp : p.length = 4) (hi : i < 4) : rTup K (cutR (List.map rInt p) none (some (i : Int)) ++ [rC (V.int 0)] ++ cutR (List.map rInt p) (some ((i : Int) + 1)) none) = rKey K (p.set i 0) := by
  match p, hp with
  | [a, b, c, d], _ =>
    match i, hi with
    | 0, _ => rfl
    | 1, _ => rfl
    | 2, _ => rfl
    | 3, _ => rfl
theorem ok_without {P : Program} {w : World} {K : PySem.W.Frag} {mg : Str → Option Value} {base : Heap} {f : Addr} {fd : FuncData} (T : Txt K mg) (F : FunD K "without" "without" (defArgs s_without) (defBody s_without) (defScope s_without) [] [] f fd)   :
    FnOk P w K mg base CX0 1 f fd ["powers", "k"] (spOf (S_without P w K)) := by
  refine F.ok sc_without (len_of (by intro rs k h; first | (obtain ⟨e, _⟩ := h; subst e; exact rfl) | (obtain ⟨_, e, _⟩ := h; subst e; exact rfl) | (obtain ⟨_, _, e, _⟩ := h; subst e; exact rfl) | (obtain ⟨_, _, _, e, _⟩ := h; subst e; exact rfl) | (obtain ⟨_, _, _, _, e, _⟩ := h; subst e; exact rfl) | (obtain ⟨_, _, _, _, _, e, _⟩ := h; subst e; exact rfl) | (obtain ⟨_, _, _, _, _, _, e, _⟩ := h; subst e; exact rfl) | (obtain ⟨_, _, _, _, _, _, _, e, _⟩ := h; subst e; exact rfl) | (obtain ⟨_, _, _, _, _, _, _, _, e, _⟩ := h; subst e; exact rfl) | (obtain ⟨_, _, _, _, _, _, _, _, _, e, _⟩ := h; subst e; exact rfl) | (obtain ⟨_, _, _, _, _, _, _, _, _, _, e, _⟩ := h; subst e; exact rfl) | (obtain ⟨_, _, _, _, _, _, _, _, _, _, _, e, _⟩ := h; subst e; exact rfl) | (obtain ⟨_, _, _, _, _, _, _, _, _, _, _, _, e, _⟩ := h; subst e; exact rfl))) (fun cdv A outer s H vs Q E hr h => ?_)
  
  refine ⟨_, PSs.nox (pss_cons (ps_ret (pe_op (k_catT (K := K) rfl) (pe_op (k_catT (K := K) rfl) (pe_slice (k_slT (K := K) rfl) (pv 0) po_none (po_some (pv 1))) (pe_tup (pa_cons pe_int pa_nil))) (pe_slice (k_slT (K := K) rfl) (pv 0) (po_some (pe_op op_add (pv 1) pe_int)) po_none))) pss_nil), ?_⟩
  refine read_of P w K h rfl fun rs k D hs hD hN => ?_
  obtain ⟨p, i, rfl, hp, hi, hk⟩ := hs
  (refine ws_retS (by assumption) ?_; refine we_op ?_; refine we_op ?_; refine we_slT ?_; refine we_var rfl ?_; refine ⟨_, rfl, ?_⟩; refine wo_none ?_; refine wo_some ?_; refine we_var rfl ?_; refine ⟨_, rfl, ?_⟩; refine we_tup ?_; refine wa_cons ?_; refine we_c ?_; refine wa_nil ?_; refine ⟨Nat.le_of_ble_eq_true rfl, ?_⟩; refine ot_catT ?_ ?_)
  · exact without_len hp hi
  · (refine we_slT ?_; refine we_var rfl ?_; refine ⟨_, rfl, ?_⟩; refine wo_some ?_; refine we_op ?_; refine we_var rfl ?_; refine we_c ?_; refine ot_I0 ?_; refine ⟨_, rfl, ?_⟩; refine wo_none ?_; refine ot_catT ?_ ?_)
    · exact without_len2 hp hi
    rw [without_eq hp hi]
    exact hk
def putC (i : Nat) (kss : List PT) (t : List Int × Int) : List PT := kss.set (t.1.getD i 0).toNat (putM (kss.getD (t.1.getD i 0).toNat []) (t.1.set i 0) t.2)
def cntL (A : PT) (i : Nat) : List PT := (A.foldl (putC i) (List.replicate (degP A i + 1) [])).map canon
def S_counts_by (P : Program) (w : World) (K : PySem.W.Frag) : Spc := fun rs k => ∃ (C : Addr) (A : PT) (b : B4) (i : Nat), rs = [rPT K C A, rInt (i : Int)] ∧ PolyC K C ∧ Bx b A ∧ i < 4 ∧ A.length ≤ 16777000 ∧ degP A i ≤ 16777000 ∧ k (rLst ((cntL A i).map (rPT K (CR K))))
theorem putC_map (i : Nat) (s : List PT) (t : List Int × Int) : (s.map mI).set (t.1.getD i 0).toNat (putM ((s.map mI).getD (t.1.getD i 0).toNat []) (t.1.set i 0) (rInt t.2)) = (putC i s t).map mI := by
  unfold putC
  rw [List.map_set, ← putI]
  generalize (t.1.getD i 0).toNat = j
  congr 2
  rw [List.getD_eq_getElem?_getD, List.getD_eq_getElem?_getD, List.getElem?_map]
  cases s[j]? <;> rfl
/-- what stands in the list while the counts are sorted out -/
structure CI (n d : Nat) (s : List PT) : Prop where
  len : s.length = d
  el : ∀ m ∈ s, m.length ≤ n ∧ ∀ e ∈ m, e.1.length = 4
theorem CI.put {n d i : Nat} {s : List PT} (h : CI n d s) {t : List Int × Int} (ht : t.1.length = 4) : CI (n + 1) d (putC i s t) := by
  refine ⟨by unfold putC; rw [List.length_set]; exact h.len, fun m hm => ?_⟩
  have : m ∈ s ∨ m = putM (s.getD (t.1.getD i 0).toNat []) (t.1.set i 0) t.2 := List.mem_or_eq_of_mem_set hm
  rcases this with hm | rfl
  · exact ⟨Nat.le_succ_of_le (h.el m hm).1, (h.el m hm).2⟩
  · have old : (s.getD (t.1.getD i 0).toNat []).length ≤ n ∧ ∀ e ∈ s.getD (t.1.getD i 0).toNat [], e.1.length = 4 := by
      rw [List.getD_eq_getElem?_getD]
      cases e : s[(t.1.getD i 0).toNat]? with
      | none => exact ⟨Nat.zero_le _, fun _ h => by cases h⟩
      | some m => exact h.el m (List.mem_of_getElem? e)
    exact ⟨Nat.le_trans (putM_len _ _ _) (Nat.succ_le_succ old.1), put_key (p := fun k => k.length = 4) old.2 (by rw [List.length_set]; exact ht) _⟩
theorem CI.fold (i : Nat) {d : Nat} : ∀ (A : PT) {n : Nat} {s : List PT}, CI n d s → N4 A → CI (n + A.length) d (A.foldl (putC i) s)
  | [], _, _, h, _ => h
  | t :: A, n, s, h, g => by
    have := CI.fold i A (h.put (i := i) (g t (List.mem_cons_self ..))) fun e he => g e (List.mem_cons_of_mem _ he)
    rw [List.length_cons, show n + (A.length + 1) = n + 1 + A.length by omega]
    exact this
theorem CI.start (d : Nat) : CI 0 d (List.replicate d []) := ⟨List.length_replicate, fun m hm => by rw [List.eq_of_mem_replicate hm]; exact ⟨Nat.le_refl _, fun _ h => by cases h⟩⟩
theorem degP_mem {A : PT} {t : List Int × Int} (h : t ∈ A) (i : Nat) : (t.1.getD i 0).toNat ≤ degP A i := degL_mem (List.mem_map.mpr ⟨t, h, rfl⟩)
theorem nm7 (r1 r2 : Rel) : NoM [.im r1, .im r2, .no, .no, .no, .no, .no] := fun a t e => by
  match a, e with
  | 0, e => cases e; rfl
  | 1, e => cases e; rfl
  | 2, e => cases e; rfl
  | 3, e => cases e; rfl
  | 4, e => cases e; rfl
  | 5, e => cases e; rfl
  | 6, e => cases e; rfl
  | a + 7, e => exact nomatch e
theorem nm7' (r1 r2 r3 r4 : Rel) : NoM [.im r1, .im r2, .no, .im r3, .im r4, .no, .no] := fun a t e => by
  match a, e with
  | 0, e => cases e; rfl
  | 1, e => cases e; rfl
  | 2, e => cases e; rfl
  | 3, e => cases e; rfl
  | 4, e => cases e; rfl
  | 5, e => cases e; rfl
  | 6, e => cases e; rfl
  | a + 7, e => exact nomatch e
theorem ok_counts_by {P : Program} {w : World} {K : PySem.W.Frag} {mg : Str → Option Value} {base : Heap} {f : Addr} {fd fd_poly_from fd_without fd_degree_by : FuncData} (T : Txt K mg) (F : FunD K "counts_by" "counts_by" (defArgs s_counts_by) (defBody s_counts_by) (defScope s_counts_by) [] [] f fd) (c_poly_from : Callee P w K mg base (He.ga K "poly_from") fd_poly_from ["parts"] 3 (spOf (S_poly_from P w K))) (c_without : Callee P w K mg base (He.ga K "without") fd_without ["powers", "k"] 1 (spOf (S_without P w K))) (c_degree_by : Callee P w K mg base (He.ga K "degree_by") fd_degree_by ["poly", "k"] 1 (spOf (S_degree_by P w K)))  :
    FnOk P w K mg base CX0 4 f fd ["poly", "k"] (spOf (S_counts_by P w K)) := by
  refine F.ok sc_counts_by (len_of (by intro rs k h; first | (obtain ⟨e, _⟩ := h; subst e; exact rfl) | (obtain ⟨_, e, _⟩ := h; subst e; exact rfl) | (obtain ⟨_, _, e, _⟩ := h; subst e; exact rfl) | (obtain ⟨_, _, _, e, _⟩ := h; subst e; exact rfl) | (obtain ⟨_, _, _, _, e, _⟩ := h; subst e; exact rfl) | (obtain ⟨_, _, _, _, _, e, _⟩ := h; subst e; exact rfl) | (obtain ⟨_, _, _, _, _, _, e, _⟩ := h; subst e; exact rfl) | (obtain ⟨_, _, _, _, _, _, _, e, _⟩ := h; subst e; exact rfl) | (obtain ⟨_, _, _, _, _, _, _, _, e, _⟩ := h; subst e; exact rfl) | (obtain ⟨_, _, _, _, _, _, _, _, _, e, _⟩ := h; subst e; exact rfl) | (obtain ⟨_, _, _, _, _, _, _, _, _, _, e, _⟩ := h; subst e; exact rfl) | (obtain ⟨_, _, _, _, _, _, _, _, _, _, _, e, _⟩ := h; subst e; exact rfl) | (obtain ⟨_, _, _, _, _, _, _, _, _, _, _, _, e, _⟩ := h; subst e; exact rfl))) (fun cdv A outer s H vs Q E hr h => ?_)
  
  refine ⟨_, PSs.nox (pss_cons (ps_setLc (i := 2) (own := [("power_here", 5)]) (g := gName 5) (tt := tYes) rfl sc_counts_by.nd rfl rfl (sw_true rfl rfl rfl (by decide +kernel)) (pi_range1 rfl T.b_range (pa_cons (pe_op op_add (pe_call (c_degree_by.F.mono (by decide)) hr rfl T.g_degree_by c_degree_by.kp c_degree_by.b .nil pass0 (pa_cons (pv 0) (pa_cons (pv 1) pa_nil))) pe_int) pa_nil)) (blkOk_by (own := [("power_here", 5)]) (N := ["poly", "k", "found", "powers", "count", "power_here", "parts"]) (sc := defScope s_counts_by) (by decide +kernel)) (fun _ _ _ _ _ => (pg_name (i := 5) sc_counts_by.nd rfl (by first | exact Or.inl rfl | exact Or.inr rfl))) (fun _ _ _ _ _ => pts_nil) (fun _ _ _ _ _ => (q_new (P := P) (w := w) rfl rfl))) (pss_cons (ps_for PassesOwn.never rfl (q_tup (K := K) rfl (q_fld (K := K) rfl (pv 0) rfl)) (q_gtup (K := K) rfl rfl (pgs_cons (pg_name (i := 3) sc_counts_by.nd rfl (by first | exact Or.inl rfl | exact Or.inr rfl)) (pgs_cons (pg_name (i := 4) sc_counts_by.nd rfl (by first | exact Or.inl rfl | exact Or.inr rfl)) pgs_nil))) (pss_cons (q_put (P := P) (w := w) (K := K) rfl rfl rfl (hu_of hr) (pe_ix (k_ixL (K := K) rfl) (pv 2) (pe_ix (k_ixT (K := K) rfl) (pv 3) (pv 1) (fun _ _ => rfl)) (fun _ _ => rfl)) (pe_call (c_without.F.mono (by decide)) hr rfl T.g_without c_without.kp c_without.b .nil pass0 (pa_cons (pv 3) (pa_cons (pv 1) pa_nil))) (pv 4) rfl) pss_nil)) (pss_frzAll 2 (pss_cons (ps_ret (pe_frz (pe_lc (own := [("parts", 6)]) (g := gName 6) (tt := tYes) rfl sc_counts_by.nd (q_list (K := K) rfl (pv 2)) (blkOk_by (own := [("parts", 6)]) (N := ["poly", "k", "found", "powers", "count", "power_here", "parts"]) (sc := defScope s_counts_by) (by decide +kernel)) (fun _ _ _ _ _ => (pg_name (i := 6) sc_counts_by.nd rfl (by first | exact Or.inl rfl | exact Or.inr rfl))) (fun _ _ _ _ _ => pts_nil) (fun _ _ _ _ _ => (pe_call (c_poly_from.F.mono (by decide)) hr rfl T.g_poly_from c_poly_from.kp c_poly_from.b .nil pass0 (pa_cons (pv 6) pa_nil)))))) pss_nil)))), ?_⟩
  refine read_of P w K h rfl fun rs k D hs hD hN => ?_
  obtain ⟨C, A', b, i, rfl, hC, hA, hi, hz, hd, hk⟩ := hs

  refine ws_mkX (B := bd P w K H) (j := 5) (f := 2) ?_
  (refine wi_rng1 ?_; refine wa_cons ?_; refine we_op ?_; refine we_call ?_; refine wa_cons ?_; refine we_var rfl ?_; refine wa_cons ?_; refine we_var rfl ?_; refine wa_nil ?_)
  refine ⟨C, A', b, i, rfl, hC, hA, hi, hz, ?_⟩
  (refine we_c ?_; refine ot_I0 ?_; refine wa_nil ?_; refine ⟨_, rfl, ?_⟩)
  refine ⟨by omega, by omega, by unfold sizeLine; omega, Nat.le_of_ble_eq_true rfl, fun σ H1 E1 M1 => ?_⟩
  have hn4 := hA.n4
  have e1 : ((degP A' i : Int) + 1).toNat = degP A' i + 1 := by omega
  rw [e1] at M1
  refine ws_forM (B := bd P w K H) A' (g := fun t => rTup K [rKey K t.1, rInt t.2]) (List.replicate (degP A' i + 1) ([] : PT)) (putC i) (fun _ => [.im (rPT K C A'), .im (rInt (i : Int)), .no, .no, .no, .no, .no]) (fun s σ H' => MX (bd P w K H) 2 (s.map mI) σ H') [3, 4] (fun s σ Ha σ' Hb m e q => m.mono e (q 2 (by decide))) E1 (by rw [List.map_replicate]; exact M1) ?_
  (refine wi_tup ?_; refine we_fld ?_; refine we_var rfl ?_)
  refine ⟨C, _, rTms K A', rfl, hC.cl, hC.na, rfl, _, rfl, by rw [List.length_map], fun j hj => getD_map hj, by (repeat' (first | exact Weak.nil | apply Weak.eq | apply Weak.no)), fun j hj G st => ?_, ?_⟩
  · generalize hs : (A'.take j).foldl (putC i) (List.replicate (degP A' i + 1) []) = s
    have hI : CI j (degP A' i + 1) s := by
      rw [← hs]
      have := CI.fold i (A'.take j) (CI.start (degP A' i + 1)) fun e he => hn4 e (List.mem_of_mem_take he)
      rw [List.length_take, Nat.min_eq_left (Nat.le_of_lt hj), Nat.zero_add] at this
      exact this
    have ht : A'[j] ∈ A' := List.getElem_mem hj
    have h4 := hn4 _ ht
    have hnn := (hA _ ht).nn i
    refine ⟨_, wg_tup rfl (wgs_cons wg_name (wgs_cons wg_name wgs_nil)), fun σ H2 E2 M2 => ?_⟩
    have E2' : BX.Env ((bd P w K H).more G st) [.im (rPT K C A'), .im (rInt (i : Int)), .no, .im (rKey K A'[j].1), .im (rInt A'[j].2), .no, .no] σ H2 := E2
    refine sx_put (B := (bd P w K H).more G st) (kss := s.map mI) (nm7' _ _ _ _) E2' M2 ?_
    · (refine we_var rfl ?_; refine we_op ?_; refine we_var rfl ?_; refine we_var rfl ?_)
      refine ot_ixT (getD_key (i := i) (by omega)) ?_
      have hdm := degP_mem ht i
      refine ⟨(A'[j].1.getD i 0).toNat, by rw [Int.toNat_of_nonneg hnn], by rw [List.length_map, hI.len]; omega, ?_⟩
      (refine we_call ?_; refine wa_cons ?_; refine we_var rfl ?_; refine wa_cons ?_; refine we_var rfl ?_; refine wa_nil ?_)
      refine ⟨A'[j].1, i, rfl, h4, hi, A'[j].1.set i 0, rfl, ?_, fun H3 E3 M3 => ?_⟩
      · rw [List.getD_eq_getElem?_getD, List.getElem?_map]
        cases e : s[(A'[j].1.getD i 0).toNat]? with
        | none => exact Nat.le_of_ble_eq_true rfl
        | some m =>
          have := (hI.el m (List.mem_of_getElem? e)).1
          show (mI m).length < sizeLine
          rw [List.length_map]
          unfold sizeLine
          omega
      · rw [putC_map] at M3
        exact ⟨E3.wk (by (repeat' (first | exact Weak.nil | apply Weak.eq | apply Weak.no))), M3⟩
  · intro σ H2 E2 M2
    have hI : CI A'.length (degP A' i + 1) (A'.foldl (putC i) (List.replicate (degP A' i + 1) [])) := by
      have := CI.fold i A' (CI.start (degP A' i + 1)) hn4
      rw [Nat.zero_add] at this
      exact this
    have hk' : k (rLst (((A'.foldl (putC i) (List.replicate (degP A' i + 1) [])).map canon).map (rPT K (CR K)))) := hk
    rw [List.map_map] at hk'
    generalize A'.foldl (putC i) (List.replicate (degP A' i + 1) []) = s at hI M2 hk'
    refine ws_frzAll (B := bd P w K H) (f := 2) (nm7 _ _) (Nat.le_of_ble_eq_true rfl) E2 M2 ?_
    (refine ws_retS (by assumption) ?_; refine we_frzL ?_)
    refine wl_lcM s (g := rDI P w K) (h := fun m => rPT K (CR K) (canon m)) ?_
    (refine wi_list ?_; refine we_var rfl ?_; refine ⟨_, rfl, ?_⟩)
    refine ⟨by rw [List.length_map, List.length_map], fun j hj => ?_, by rw [hI.len]; unfold sizeLine; omega, fun m hm G st => ?_, ?_⟩
    · show (((s.map mI).map fun ks => rDct P w K ks).getD j _) = _
      rw [List.map_map]
      exact getD_map (g := (fun ks => rDct P w K ks) ∘ mI) hj
    · refine ⟨_, _, ?_, wg_name, ?_⟩
      · intro j hj; exact hj
      · have := hI.el m hm
        (refine we_call ?_; refine wa_cons ?_; refine we_var rfl ?_; refine wa_nil ?_)
        refine ⟨m, rfl, fun e he z => ?_, by unfold sizeLine; omega, rfl⟩
        have := this.2 e he
        rw [z] at this
        cases this
    · exact hk'
def leadP (A : PT) (i : Nat) : PT := (cntL A i).getD (degP A i) []
theorem cntL_len {A : PT} {b : B4} (h : Bx b A) (i : Nat) : (cntL A i).length = degP A i + 1 := by
  unfold cntL
  rw [List.length_map]
  exact (CI.fold i A (CI.start (degP A i + 1)) h.n4).len
def S_lead_by (P : Program) (w : World) (K : PySem.W.Frag) : Spc := fun rs k => ∃ (C : Addr) (A : PT) (b : B4) (i : Nat), rs = [rPT K C A, rInt (i : Int)] ∧ PolyC K C ∧ Bx b A ∧ i < 4 ∧ A.length ≤ 16777000 ∧ degP A i ≤ 16777000 ∧ k (rPT K (CR K) (leadP A i))
theorem ok_lead_by {P : Program} {w : World} {K : PySem.W.Frag} {mg : Str → Option Value} {base : Heap} {f : Addr} {fd fd_counts_by : FuncData} (T : Txt K mg) (F : FunD K "lead_by" "lead_by" (defArgs s_lead_by) (defBody s_lead_by) (defScope s_lead_by) [] [] f fd) (c_counts_by : Callee P w K mg base (He.ga K "counts_by") fd_counts_by ["poly", "k"] 4 (spOf (S_counts_by P w K)))  :
    FnOk P w K mg base CX0 5 f fd ["poly", "k"] (spOf (S_lead_by P w K)) := by
  refine F.ok sc_lead_by (len_of (by intro rs k h; first | (obtain ⟨e, _⟩ := h; subst e; exact rfl) | (obtain ⟨_, e, _⟩ := h; subst e; exact rfl) | (obtain ⟨_, _, e, _⟩ := h; subst e; exact rfl) | (obtain ⟨_, _, _, e, _⟩ := h; subst e; exact rfl) | (obtain ⟨_, _, _, _, e, _⟩ := h; subst e; exact rfl) | (obtain ⟨_, _, _, _, _, e, _⟩ := h; subst e; exact rfl) | (obtain ⟨_, _, _, _, _, _, e, _⟩ := h; subst e; exact rfl) | (obtain ⟨_, _, _, _, _, _, _, e, _⟩ := h; subst e; exact rfl) | (obtain ⟨_, _, _, _, _, _, _, _, e, _⟩ := h; subst e; exact rfl) | (obtain ⟨_, _, _, _, _, _, _, _, _, e, _⟩ := h; subst e; exact rfl) | (obtain ⟨_, _, _, _, _, _, _, _, _, _, e, _⟩ := h; subst e; exact rfl) | (obtain ⟨_, _, _, _, _, _, _, _, _, _, _, e, _⟩ := h; subst e; exact rfl) | (obtain ⟨_, _, _, _, _, _, _, _, _, _, _, _, e, _⟩ := h; subst e; exact rfl))) (fun cdv A outer s H vs Q E hr h => ?_)
  
  refine ⟨_, PSs.nox (pss_cons (ps_ret (pe_ix (k_ixL (K := K) rfl) (pe_call (c_counts_by.F.mono (by decide)) hr rfl T.g_counts_by c_counts_by.kp c_counts_by.b .nil pass0 (pa_cons (pv 0) (pa_cons (pv 1) pa_nil))) (pe_un un_neg pe_int) (fun _ _ => rfl))) pss_nil), ?_⟩
  refine read_of P w K h rfl fun rs k D hs hD hN => ?_
  obtain ⟨C, A', b, i, rfl, hC, hA, hi, hz, hd, hk⟩ := hs
  (refine ws_retS (by assumption) ?_; refine we_op ?_; refine we_call ?_; refine wa_cons ?_; refine we_var rfl ?_; refine wa_cons ?_; refine we_var rfl ?_; refine wa_nil ?_)
  refine ⟨C, A', b, i, rfl, hC, hA, hi, hz, hd, ?_⟩
  (refine we_un ?_; refine we_c ?_; refine ut_I ?_)
  have hl := cntL_len hA i
  unfold leadP at hk
  generalize cntL A' i = L at hl hk
  have e : L = L.take (degP A' i) ++ [L.getD (degP A' i) []] := by
    have hn : degP A' i < L.length := by omega
    conv => lhs; rw [← List.take_append_drop (degP A' i) L]
    rw [List.drop_eq_getElem_cons hn, List.drop_eq_nil_of_le (by omega), List.getD_eq_getElem?_getD, List.getElem?_eq_getElem hn]
    rfl
  refine ot_ixL (r := rPT K (CR K) (L.getD (degP A' i) [])) ?_ hk
  conv => lhs; rw [e]
  rw [List.map_append]
  exact atI_last _ _
end Lw
set_option Elab.async false
set_option linter.all false
set_option maxRecDepth 100000
set_option maxHeartbeats 1000000
namespace Lw
open PySem PySem.Spec PyProof.Rows L2 BX
def B4.at (b : B4) : Nat → Nat
  | 0 => b.a
  | 1 => b.b
  | 2 => b.c
  | _ => b.d
def B4.set (b : B4) (i n : Nat) : B4 := match i with
  | 0 => ⟨n, b.b, b.c, b.d⟩
  | 1 => ⟨b.a, n, b.c, b.d⟩
  | 2 => ⟨b.a, b.b, n, b.d⟩
  | _ => ⟨b.a, b.b, b.c, n⟩
theorem in_at {b : B4} {k : List Int} : In b k ↔ k.length = 4 ∧ ∀ j, j < 4 → 0 ≤ k.getD j 0 ∧ (k.getD j 0).toNat ≤ b.at j := by
  constructor
  · rintro ⟨x, y, z, u, rfl, h1, h2, h3, h4⟩
    refine ⟨rfl, fun j hj => ?_⟩
    match j, hj with
    | 0, _ => exact ⟨Int.natCast_nonneg _, h1⟩
    | 1, _ => exact ⟨Int.natCast_nonneg _, h2⟩
    | 2, _ => exact ⟨Int.natCast_nonneg _, h3⟩
    | 3, _ => exact ⟨Int.natCast_nonneg _, h4⟩
  · rintro ⟨hl, h⟩
    match k, hl with
    | [x, y, z, u], _ =>
      have h0 : 0 ≤ x ∧ x.toNat ≤ b.a := h 0 (by decide)
      have h1 : 0 ≤ y ∧ y.toNat ≤ b.b := h 1 (by decide)
      have h2 : 0 ≤ z ∧ z.toNat ≤ b.c := h 2 (by decide)
      have h3 : 0 ≤ u ∧ u.toNat ≤ b.d := h 3 (by decide)
      exact ⟨x.toNat, y.toNat, z.toNat, u.toNat, by rw [Int.toNat_of_nonneg h0.1, Int.toNat_of_nonneg h1.1, Int.toNat_of_nonneg h2.1, Int.toNat_of_nonneg h3.1], h0.2, h1.2, h2.2, h3.2⟩
theorem le_at {b c : B4} (h : ∀ j, j < 4 → b.at j ≤ c.at j) : b.le c := ⟨h 0 (by decide), h 1 (by decide), h 2 (by decide), h 3 (by decide)⟩
theorem at_le {b c : B4} (h : b.le c) {j : Nat} (hj : j < 4) : b.at j ≤ c.at j := by
  match j, hj with
  | 0, _ => exact h.pa
  | 1, _ => exact h.pb
  | 2, _ => exact h.pc
  | 3, _ => exact h.pd
theorem at_add (b c : B4) (j : Nat) : (b.add c).at j = b.at j + c.at j := by
  match j with
  | 0 => rfl
  | 1 => rfl
  | 2 => rfl
  | n + 3 => rfl
theorem at_mul (n : Nat) (b : B4) (j : Nat) : (B4.mul n b).at j = n * b.at j := by
  match j with
  | 0 => rfl
  | 1 => rfl
  | 2 => rfl
  | n + 3 => rfl
theorem at_set (b : B4) (n : Nat) {i j : Nat} (hi : i < 4) (hj : j < 4) : (b.set i n).at j = if i = j then n else b.at j := by
  match i, j, hi, hj with
  | 0, 0, _, _ => rfl
  | 0, 1, _, _ => rfl
  | 0, 2, _, _ => rfl
  | 0, 3, _, _ => rfl
  | 1, 0, _, _ => rfl
  | 1, 1, _, _ => rfl
  | 1, 2, _, _ => rfl
  | 1, 3, _, _ => rfl
  | 2, 0, _, _ => rfl
  | 2, 1, _, _ => rfl
  | 2, 2, _, _ => rfl
  | 2, 3, _, _ => rfl
  | 3, 0, _, _ => rfl
  | 3, 1, _, _ => rfl
  | 3, 2, _, _ => rfl
  | 3, 3, _, _ => rfl
theorem getD_set {k : List Int} {i j : Nat} {n : Int} (hi : i < k.length) : (k.set i n).getD j 0 = if i = j then n else k.getD j 0 := by
  rw [List.getD_eq_getElem?_getD, List.getElem?_set]
  by_cases h : i = j
  · rw [if_pos h, if_pos h, if_pos (h ▸ hi)]
    rfl
  · rw [if_neg h, if_neg h, List.getD_eq_getElem?_getD]
theorem In.set {b : B4} {k : List Int} (h : In b k) {i n : Nat} (hi : i < 4) : In (b.set i n) (k.set i (n : Int)) := by
  have g := in_at.mp h
  refine in_at.mpr ⟨by rw [List.length_set]; exact g.1, fun j hj => ?_⟩
  rw [getD_set (by omega), at_set _ _ hi hj]
  split
  · omega
  · exact g.2 j hj
theorem pol_cons (t : List Int × Int) (A : PT) : pol (t :: A) = mon t.1 t.2 + pol A := rfl
theorem pol_nil : pol [] = 0 := Pol.sound fun k => by
  show (0 : Int) = sm [(M4.no, ((0 : Nat) : Int))] k
  rw [con_sm, con0]
/-- the terms of a power of an unknown, without it -/
def atE (i d : Nat) (t : List Int × Int) : Bool := (t.1.getD i 0).toNat == d
def grp (A : PT) (i d : Nat) : PT := (A.filter (atE i d)).map fun t => (t.1.set i 0, t.2)
def low (A : PT) (i : Nat) : PT := A.filter fun t => !atE i (degP A i) t
theorem key_set {k l : List Int} {i : Nat} (hk : k.length = 4) (hl : l.length = 4) (hi : i < 4) (e : k.getD i 0 = l.getD i 0) (h : k.set i 0 = l.set i 0) : k = l := by
  refine List.ext_getElem (hk.trans hl.symm) fun j h1 h2 => ?_
  have q : k.getD j 0 = l.getD j 0 := by
    by_cases c : i = j
    · rw [← c]; exact e
    · have z := congrArg (fun x : List Int => x.getD j 0) h
      simp only [getD_set (show i < k.length by omega), getD_set (show i < l.length by omega), if_neg c] at z
      exact z
  rw [List.getD_eq_getElem?_getD, List.getD_eq_getElem?_getD, List.getElem?_eq_getElem h1, List.getElem?_eq_getElem h2] at q
  exact q
theorem grp_nd {A : PT} {b : B4} (h : Bx b A) (nd : (A.map (·.1)).Nodup) {i : Nat} (hi : i < 4) (d : Nat) : ((grp A i d).map (·.1)).Nodup := by
  unfold grp
  rw [List.map_map]
  have nd' : A.Pairwise fun a b => a.1 ≠ b.1 := List.pairwise_map.mp nd
  refine List.pairwise_map.mpr ?_
  refine (nd'.filter _).imp_of_mem fun {x y} hx hy ne z => ne ?_
  have ex := h x (List.mem_filter.mp hx).1
  have ey := h y (List.mem_filter.mp hy).1
  have dx : (x.1.getD i 0).toNat = d := by simpa [atE] using (List.mem_filter.mp hx).2
  have dy : (y.1.getD i 0).toNat = d := by simpa [atE] using (List.mem_filter.mp hy).2
  have n1 := ex.nn i
  have n2 := ey.nn i
  exact key_set ex.len ey.len hi (by omega) z
theorem grp_bx {A : PT} {b : B4} (h : Bx b A) {i : Nat} (hi : i < 4) (d : Nat) : Bx (b.set i 0) (grp A i d) := fun e he => by
  obtain ⟨t, ht, rfl⟩ := List.mem_map.mp he
  exact (h t (List.mem_filter.mp ht).1).set (n := 0) hi
theorem l1_filter (A : PT) (p : List Int × Int → Bool) : l1 (A.filter p) ≤ l1 A := by
  induction A with
  | nil => exact Nat.le_refl _
  | cons t A ih =>
    rw [List.filter_cons, l1_cons]
    split
    · rw [l1_cons]; omega
    · omega
theorem l1_grp (A : PT) (i d : Nat) : l1 (grp A i d) ≤ l1 A := by
  have : l1 (grp A i d) = l1 (A.filter (atE i d)) := by
    unfold grp l1
    rw [List.map_map]
    rfl
  rw [this]
  exact l1_filter A _
def upP (i n : Nat) : PT := [(pwOf i (n : Int), 1)]
theorem mon_up {b : B4} {k : List Int} {i d : Nat} {c : Int} (h : In b k) (hi : i < 4) (e : (k.getD i 0).toNat = d) : mon (k.set i 0) c * mon (pwOf i (d : Int)) 1 = mon k c := by
  have : mon (k.set i 0) c * mon (pwOf i (d : Int)) 1 = Pol.mk [(M4.pl (nm (k.set i 0)) (nm (pwOf i (d : Int))), c * 1)] := rfl
  rw [this, Int.mul_one]
  have q : M4.pl (nm (k.set i 0)) (nm (pwOf i (d : Int))) = nm k := by
    obtain ⟨x, y, z, u, rfl, _⟩ := h
    match i, hi with
    | 0, _ => have : x = d := e; subst this; exact M4.eq (Int.zero_add _) (Int.add_zero _) (Int.add_zero _) (Int.add_zero _)
    | 1, _ => have : y = d := e; subst this; exact M4.eq (Int.add_zero _) (Int.zero_add _) (Int.add_zero _) (Int.add_zero _)
    | 2, _ => have : z = d := e; subst this; exact M4.eq (Int.add_zero _) (Int.add_zero _) (Int.zero_add _) (Int.add_zero _)
    | 3, _ => have : u = d := e; subst this; exact M4.eq (Int.add_zero _) (Int.add_zero _) (Int.add_zero _) (Int.zero_add _)
  rw [q]
  rfl
theorem pol_up (i n : Nat) : pol (upP i n) = mon (pwOf i (n : Int)) 1 := rfl
theorem pol_grp {A : PT} {b : B4} (h : Bx b A) {i : Nat} (hi : i < 4) (d : Nat) : pol (grp A i d) * pol (upP i d) = pol (A.filter (atE i d)) := by
  unfold grp
  induction A with
  | nil => 
    show pol [] * _ = pol []
    rw [pol_nil]
    grind
  | cons t A ih =>
    have ih := ih fun e he => h e (List.mem_cons_of_mem _ he)
    rw [List.filter_cons]
    by_cases c : atE i d t = true
    · rw [if_pos c, List.map_cons, pol_cons, pol_cons, ← ih]
      have := mon_up (c := t.2) (h t (List.mem_cons_self ..)) hi (by simpa [atE] using c : (t.1.getD i 0).toNat = d)
      rw [← this, pol_up]
      grind
    · rw [if_neg c]
      exact ih
theorem pol_split (A : PT) (p : List Int × Int → Bool) : pol A = pol (A.filter p) + pol (A.filter fun t => !p t) := by
  induction A with
  | nil => 
    show pol [] = pol [] + pol []
    rw [pol_nil]
    grind
  | cons t A ih =>
    rw [List.filter_cons, List.filter_cons, pol_cons, ih]
    cases p t
    · show _ = _ + pol (_ :: _)
      rw [pol_cons]
      grind
    · show _ = pol (_ :: _) + _
      rw [pol_cons]
      grind
/-- the list of the counts -/
theorem fold_grp {b : B4} {i d : Nat} (hi : i < 4) : ∀ (A A0 : PT) (s : List PT), s.length = d → (∀ j, j < d → s.getD j [] = grp A0 i j) → Bx b (A0 ++ A) → ((A0 ++ A).map (·.1)).Nodup → (∀ t ∈ A, (t.1.getD i 0).toNat < d) →
    ∀ j, j < d → (A.foldl (putC i) s).getD j [] = grp (A0 ++ A) i j
  | [], A0, s, _, h, _, _, _, j, hj => by rw [List.append_nil]; exact h j hj
  | t :: A, A0, s, hl, h, hb, nd, ht, j, hj => by
    have e : A0 ++ t :: A = (A0 ++ [t]) ++ A := by rw [List.append_assoc]; rfl
    rw [List.foldl_cons, e]
    rw [e] at hb nd
    refine fold_grp hi A (A0 ++ [t]) (putC i s t) (by unfold putC; rw [List.length_set]; exact hl) (fun j' hj' => ?_) hb nd (fun t' h' => ht t' (List.mem_cons_of_mem _ h')) j hj
    have hts := ht t (List.mem_cons_self ..)
    have g1 : grp (A0 ++ [t]) i j' = grp A0 i j' ++ grp [t] i j' := by unfold grp; rw [List.filter_append, List.map_append]
    rw [g1]
    unfold putC
    rw [List.getD_eq_getElem?_getD, List.getElem?_set]
    by_cases c : (t.1.getD i 0).toNat = j'
    · rw [if_pos c, if_pos (by omega)]
      show putM _ _ _ = _
      rw [c, h j' hj']
      have g2 : grp [t] i j' = [(t.1.set i 0, t.2)] := by
        unfold grp
        rw [List.filter_cons, if_pos (by simpa [atE] using c)]
        rfl
      rw [g2]
      have hn : getM (grp A0 i j') (t.1.set i 0) = none := getM_none.mpr fun hm => by
        have hb' : Bx b (A0 ++ [t]) := fun e he => hb e (List.mem_append_left _ he)
        have nd' : ((A0 ++ [t]).map (·.1)).Nodup := by
          rw [List.map_append] at nd
          exact (List.nodup_append.mp nd).1
        have := grp_nd hb' nd' hi j'
        rw [g1, g2, List.map_append] at this
        exact (List.nodup_append.mp this).2.2 _ hm _ (List.mem_singleton.mpr rfl) rfl
      unfold putM
      rw [hn]
      rfl
    · rw [if_neg c]
      have g2 : grp [t] i j' = [] := by
        unfold grp
        rw [List.filter_cons, if_neg (by simpa [atE] using c)]
        rfl
      rw [g2, List.append_nil, ← h j' hj', List.getD_eq_getElem?_getD]
theorem cnt_at {A : PT} {b : B4} (h : Bx b A) (nd : (A.map (·.1)).Nodup) {i : Nat} (hi : i < 4) {j : Nat} (hj : j ≤ degP A i) : (cntL A i).getD j [] = canon (grp A i j) := by
  have := fold_grp (d := degP A i + 1) hi A [] (List.replicate (degP A i + 1) []) List.length_replicate (fun j hj => by rw [List.getD_eq_getElem?_getD, List.getElem?_replicate, if_pos hj]; rfl) h nd (fun t ht => Nat.lt_succ_of_le (degP_mem ht i)) j (by omega)
  unfold cntL
  rw [List.getD_eq_getElem?_getD, List.getElem?_map]
  rw [List.getD_eq_getElem?_getD] at this
  have hl := (CI.fold i A (CI.start (degP A i + 1)) h.n4).len
  rw [List.getElem?_eq_getElem (by omega)] at this ⊢
  show canon _ = _
  exact congrArg canon this
theorem lead_eq {A : PT} {b : B4} (h : Bx b A) (nd : (A.map (·.1)).Nodup) {i : Nat} (hi : i < 4) : leadP A i = canon (grp A i (degP A i)) := cnt_at h nd hi (Nat.le_refl _)
theorem degP_le {A : PT} {n i : Nat} (h : ∀ t ∈ A, (t.1.getD i 0).toNat ≤ n) : degP A i ≤ n := by
  unfold degP
  rcases degL_in (A.map fun t => t.1.getD i 0) with g | ⟨y, hy, e⟩
  · omega
  · obtain ⟨t, ht, rfl⟩ := List.mem_map.mp hy
    have := h t ht
    omega
theorem degP_bx {A : PT} {b : B4} {n i : Nat} (hi : i < 4) (h : Bx (b.set i n) A) : degP A i ≤ n := degP_le fun t ht => by
  have := ((in_at.mp (h t ht)).2 i hi).2
  rw [at_set _ _ hi hi, if_pos rfl] at this
  exact this
theorem bx_set {A : PT} {b : B4} {n i : Nat} (hi : i < 4) (h : Bx b A) (g : ∀ t ∈ A, (t.1.getD i 0).toNat ≤ n) : Bx (b.set i n) A := fun t ht => by
  have q := in_at.mp (h t ht)
  refine in_at.mpr ⟨q.1, fun j hj => ⟨(q.2 j hj).1, ?_⟩⟩
  rw [at_set _ _ hi hj]
  split
  · rename_i c; subst c; exact g t ht
  · exact (q.2 j hj).2
theorem PB.tight {b : B4} {n i : Nat} {A : PT} (h : PB b n A) (hi : i < 4) : PB (b.set i (degP A i)) n A := ⟨h.can, bx_set hi h.bx fun t ht => degP_mem ht i, h.l⟩
theorem PB.lead {b : B4} {n i : Nat} {A : PT} (h : PB b n A) (hi : i < 4) : PB (b.set i 0) n (leadP A i) ∧ pol (leadP A i) * pol (upP i (degP A i)) + pol (low A i) = pol A := by
  have nd := grp_nd h.bx h.can.nd hi (degP A i)
  have hb := grp_bx h.bx hi (degP A i)
  have tb : Tb (grp A i (degP A i)) := ⟨nd, hb.n4⟩
  rw [lead_eq h.bx h.can.nd hi]
  refine ⟨⟨can_canon nd, hb.canon, Nat.le_trans (l1_canon nd) (Nat.le_trans (l1_grp A i _) h.l)⟩, ?_⟩
  rw [pol_canon tb, pol_grp h.bx hi]
  exact (pol_split A (atE i (degP A i))).symm
theorem PB.low {b : B4} {n i : Nat} {A : PT} (h : PB b n A) (hi : i < 4) (h0 : 0 < degP A i) : PB (b.set i (degP A i - 1)) n (low A i) := by
  refine ⟨⟨h.can.1.filter _, fun e he => h.can.2 e (List.mem_filter.mp he).1⟩, bx_set hi (fun t ht => h.bx t (List.mem_filter.mp ht).1) fun t ht => ?_, Nat.le_trans (l1_filter A _) h.l⟩
  have := degP_mem (List.mem_filter.mp ht).1 i
  have : ¬ (t.1.getD i 0).toNat = degP A i := by simpa [atE] using (List.mem_filter.mp ht).2
  omega
theorem pb_up {i : Nat} (hi : i < 4) (n : Nat) : PB ((⟨0, 0, 0, 0⟩ : B4).set i n) 1 (upP i n) := by
  refine ⟨⟨List.pairwise_singleton _ _, fun e he => by rw [List.mem_singleton.mp he]; exact (by decide : (1 : Int) ≠ 0)⟩, fun e he => ?_, by unfold upP l1; exact Nat.le_refl 1⟩
  rw [List.mem_singleton.mp he]
  match i, hi with
  | 0, _ => exact ⟨n, 0, 0, 0, rfl, Nat.le_refl _, Nat.le_refl _, Nat.le_refl _, Nat.le_refl _⟩
  | 1, _ => exact ⟨0, n, 0, 0, rfl, Nat.le_refl _, Nat.le_refl _, Nat.le_refl _, Nat.le_refl _⟩
  | 2, _ => exact ⟨0, 0, n, 0, rfl, Nat.le_refl _, Nat.le_refl _, Nat.le_refl _, Nat.le_refl _⟩
  | 3, _ => exact ⟨0, 0, 0, n, rfl, Nat.le_refl _, Nat.le_refl _, Nat.le_refl _, Nat.le_refl _⟩
theorem up_add {i : Nat} (hi : i < 4) (a b : Nat) : pol (upP i (a + b)) = pol (upP i a) * pol (upP i b) := by
  have : pol (upP i a) * pol (upP i b) = Pol.mk [(M4.pl (nm (pwOf i (a : Int))) (nm (pwOf i (b : Int))), 1)] := rfl
  rw [this]
  have q : nm (pwOf i ((a + b : Nat) : Int)) = M4.pl (nm (pwOf i (a : Int))) (nm (pwOf i (b : Int))) := by
    match i, hi with
    | 0, _ => exact M4.eq (Int.natCast_add a b) rfl rfl rfl
    | 1, _ => exact M4.eq rfl (Int.natCast_add a b) rfl rfl
    | 2, _ => exact M4.eq rfl rfl (Int.natCast_add a b) rfl
    | 3, _ => exact M4.eq rfl rfl rfl (Int.natCast_add a b)
  rw [pol_up, ← q]
  rfl
theorem con_neg : Pol.con (-1) = (-1 : Pol) := (Lean.Grind.Ring.intCast_neg (α := Pol) 1).trans (congrArg Neg.neg (Lean.Grind.Ring.intCast_one (α := Pol)))
theorem con_one : Pol.con 1 = (1 : Pol) := rfl
/-! ### division -/
def dvS (B r : PT) (i : Nat) : PT := tm (leadP r i) (upP i (degP r i - degP B i))
def dvQ (B q r : PT) (i : Nat) : PT := canon (sumP (tm (leadP B i) q) (dvS B r i) 1)
def dvR (B r : PT) (i : Nat) : PT := canon (sumP (tm (leadP B i) r) (tm (dvS B r i) B) (-1))
def dvL (B : PT) (i : Nat) : Nat → PT → PT → PT × PT × Nat
  | 0, q, r => (q, r, 0)
  | n + 1, q, r => if r ≠ [] ∧ degP B i ≤ degP r i then dvL B i n (dvQ B q r i) (dvR B r i) else (q, r, n + 1)
/-- the box after s steps -/
def bxs (bA bB : B4) (i s : Nat) : B4 := bA.add (B4.mul s (bB.set i 0))
theorem bxs_at (bA bB : B4) {i j : Nat} (s : Nat) (hi : i < 4) (hj : j < 4) : (bxs bA bB i s).at j = bA.at j + if i = j then 0 else s * bB.at j := by
  unfold bxs
  rw [at_add, at_mul, at_set _ _ hi hj]
  split <;> rfl
structure DvI (A B : PT) (bA bB : B4) (N L i s n : Nat) (q r : PT) : Prop where
  iq : PB (bxs bA bB i s) ((2 * L) ^ s * N) q
  ir : ∃ d, PB ((bxs bA bB i s).set i d) ((2 * L) ^ s * N) r ∧ d ≤ bA.at i ∧ d + 1 ≤ n + degP B i
  ie : pol (leadP B i) ^ s * pol A = pol q * pol B + pol r
/-- what is asked of both -/
structure DvA (A B : PT) (bA bB : B4) (N L i : Nat) : Prop where
  i4 : i < 4
  pa : PB bA N A
  pb : PB bB L B
  l0 : 0 < L
  n0 : 0 < N
  m0 : 0 < degP B i
theorem DvI.start {A B : PT} {bA bB : B4} {N L i : Nat} (h : DvA A B bA bB N L i) : DvI A B bA bB N L i 0 (degP A i + 1 - degP B i) [] A := by
  have hi := h.i4
  have bp : bA.le (bxs bA bB i 0) := le_at fun j hj => by rw [bxs_at _ _ _ hi hj]; omega
  have nil : PB bA 0 [] := ⟨⟨List.Pairwise.nil, fun _ h => (nomatch h)⟩, fun _ h => (nomatch h), Nat.le_refl 0⟩
  refine ⟨nil.mono bp (Nat.zero_le _), ⟨degP A i, (h.pa.tight hi).mono (le_at fun j hj => ?_) (by rw [Nat.pow_zero, Nat.one_mul]; exact Nat.le_refl _), ?_, by have := h.m0; omega⟩, ?_⟩
  · rw [at_set _ _ hi hj, at_set _ _ hi hj, bxs_at _ _ _ hi hj]
    split <;> omega
  · exact degP_le fun t ht => ((in_at.mp (h.pa.bx t ht)).2 i hi).2
  · rw [pol_nil]
    show Pol.pow _ 0 * _ = _
    show (1 : Pol) * _ = _
    grind
theorem deg_r {B : PT} {b : B4} {n i d : Nat} {r : PT} (h : PB (b.set i d) n r) (hi : i < 4) : degP r i ≤ d := degP_bx hi h.bx
theorem pow_s (L s N : Nat) : (2 * L) ^ (s + 1) * N = L * ((2 * L) ^ s * N) + L * ((2 * L) ^ s * N) := by
  rw [Nat.pow_succ, Nat.mul_right_comm, Nat.mul_comm, Nat.mul_assoc]
  omega
/-- what the products of a step are -/
structure DvB (B : PT) (bA bB : B4) (N L i s : Nat) (q r : PT) : Prop where
  f : PB (bB.set i 0) L (leadP B i)
  lr : PB ((bxs bA bB i s).set i 0) ((2 * L) ^ s * N) (leadP r i)
  up : PB ((⟨0, 0, 0, 0⟩ : B4).set i (degP r i - degP B i)) 1 (upP i (degP r i - degP B i))
  st : PB (((bxs bA bB i s).set i 0).add ((⟨0, 0, 0, 0⟩ : B4).set i (degP r i - degP B i))) ((2 * L) ^ s * N) (dvS B r i)
  fq : PB (bxs bA bB i (s + 1)) (L * ((2 * L) ^ s * N)) (tm (leadP B i) q)
  fr : PB (bxs bA bB i (s + 1)) (L * ((2 * L) ^ s * N)) (tm (leadP B i) r)
  sb : PB (bxs bA bB i (s + 1)) (L * ((2 * L) ^ s * N)) (tm (dvS B r i) B)
  b1 : ((bB.set i 0).add (bxs bA bB i s)).le (bxs bA bB i (s + 1))
  b2 : (((bxs bA bB i s).set i 0).add ((⟨0, 0, 0, 0⟩ : B4).set i (degP r i - degP B i))).le (bxs bA bB i s)
  b3 : ((((bxs bA bB i s).set i 0).add ((⟨0, 0, 0, 0⟩ : B4).set i (degP r i - degP B i))).add (bB.set i (degP B i))).le (bxs bA bB i (s + 1))
theorem DvI.bd {A B : PT} {bA bB : B4} {N L i s n : Nat} {q r : PT} (h : DvA A B bA bB N L i) (I : DvI A B bA bB N L i s n q r) (hd : degP B i ≤ degP r i) : DvB B bA bB N L i s q r := by
  have hi := h.i4
  obtain ⟨d, pr, hA, _⟩ := I.ir
  have hr := degP_bx hi pr.bx
  have prb : PB (bxs bA bB i s) ((2 * L) ^ s * N) r := pr.mono (le_at fun j hj => by
    rw [at_set _ _ hi hj, bxs_at _ _ _ hi hj]
    split
    · rename_i c; subst c; omega
    · omega) (Nat.le_refl _)
  have b1 : ((bB.set i 0).add (bxs bA bB i s)).le (bxs bA bB i (s + 1)) := le_at fun j hj => by
    rw [at_add, at_set _ _ hi hj, bxs_at _ _ _ hi hj, bxs_at _ _ _ hi hj]
    split
    · omega
    · rw [Nat.succ_mul]; omega
  have b2 : (((bxs bA bB i s).set i 0).add ((⟨0, 0, 0, 0⟩ : B4).set i (degP r i - degP B i))).le (bxs bA bB i s) := le_at fun j hj => by
    have z : (⟨0, 0, 0, 0⟩ : B4).at j = 0 := by
      match j, hj with
      | 0, _ => rfl
      | 1, _ => rfl
      | 2, _ => rfl
      | 3, _ => rfl
    rw [at_add, at_set _ _ hi hj, at_set _ _ hi hj, bxs_at _ _ _ hi hj, z]
    split
    · rename_i c; subst c; omega
    · omega
  have b3 : ((((bxs bA bB i s).set i 0).add ((⟨0, 0, 0, 0⟩ : B4).set i (degP r i - degP B i))).add (bB.set i (degP B i))).le (bxs bA bB i (s + 1)) := le_at fun j hj => by
    have z : (⟨0, 0, 0, 0⟩ : B4).at j = 0 := by
      match j, hj with
      | 0, _ => rfl
      | 1, _ => rfl
      | 2, _ => rfl
      | 3, _ => rfl
    rw [at_add, at_add, at_set _ _ hi hj, at_set _ _ hi hj, at_set _ _ hi hj, bxs_at _ _ _ hi hj, bxs_at _ _ _ hi hj, z]
    split
    · rename_i c; subst c; omega
    · rw [Nat.succ_mul]; omega
  have f := (h.pb.lead hi).1
  have lr : PB ((bxs bA bB i s).set i 0) ((2 * L) ^ s * N) (leadP r i) := (prb.lead hi).1
  have up := pb_up hi (degP r i - degP B i)
  have st : PB (((bxs bA bB i s).set i 0).add ((⟨0, 0, 0, 0⟩ : B4).set i (degP r i - degP B i))) ((2 * L) ^ s * N) (dvS B r i) := by
    have := (lr.mul up).1
    rw [Nat.mul_one] at this
    exact this
  exact ⟨f, lr, up, st, (f.mul I.iq).1.mono b1 (Nat.le_refl _), (f.mul prb).1.mono b1 (Nat.le_refl _), (st.mul (h.pb.tight hi)).1.mono b3 (by rw [Nat.mul_comm]; exact Nat.le_refl _), b1, b2, b3⟩
theorem DvI.step {A B : PT} {bA bB : B4} {N L i s n : Nat} {q r : PT} (h : DvA A B bA bB N L i) (I : DvI A B bA bB N L i s (n + 1) q r) (hd : degP B i ≤ degP r i) : DvI A B bA bB N L i (s + 1) n (dvQ B q r i) (dvR B r i) := by
  have hi := h.i4
  have m0 := h.m0
  have D := I.bd h hd
  obtain ⟨d, pr, hA, hn⟩ := I.ir
  have hr := degP_bx hi pr.bx
  have stb : PB (bxs bA bB i (s + 1)) (L * ((2 * L) ^ s * N)) (dvS B r i) := D.st.mono (D.b2.trans (le_at fun j hj => by
    rw [bxs_at _ _ _ hi hj, bxs_at _ _ _ hi hj]
    split
    · omega
    · rw [Nat.succ_mul]; omega)) (Nat.le_mul_of_pos_left _ h.l0)
  obtain ⟨q1, q2⟩ := D.fq.sum stb (s := 1) (by decide)
  obtain ⟨r1, r2⟩ := D.fr.sum D.sb (s := -1) (by decide)
  have efq : pol (tm (leadP B i) q) = pol (leadP B i) * pol q := (D.f.mul I.iq).2
  have efr : pol (tm (leadP B i) r) = pol (leadP B i) * pol r := (D.f.mul pr).2
  have esb : pol (tm (dvS B r i) B) = pol (dvS B r i) * pol B := (D.st.mul h.pb).2
  have est : pol (dvS B r i) = pol (leadP r i) * pol (upP i (degP r i - degP B i)) := (D.lr.mul D.up).2
  have hr0 : 0 < degP r i := by omega
  have rl := pr.low hi hr0
  have bl := h.pb.low hi m0
  have er := (pr.lead hi).2
  have eb := (h.pb.lead hi).2
  have z : ∀ j, j < 4 → (⟨0, 0, 0, 0⟩ : B4).at j = 0 := fun j hj => by
    match j, hj with
    | 0, _ => rfl
    | 1, _ => rfl
    | 2, _ => rfl
    | 3, _ => rfl
  have x1 : PB ((bxs bA bB i (s + 1)).set i (degP r i - 1)) (L * ((2 * L) ^ s * N)) (tm (leadP B i) (low r i)) := (D.f.mul rl).1.mono (le_at fun j hj => by
    rw [at_add, at_set _ _ hi hj, at_set _ _ hi hj, at_set _ _ hi hj, at_set _ _ hi hj, bxs_at _ _ _ hi hj, bxs_at _ _ _ hi hj]
    split
    · omega
    · rw [Nat.succ_mul]; omega) (Nat.le_refl _)
  have x2 : PB ((bxs bA bB i (s + 1)).set i (degP r i - 1)) (L * ((2 * L) ^ s * N)) (tm (dvS B r i) (low B i)) := (D.st.mul bl).1.mono (le_at fun j hj => by
    rw [at_add, at_add, at_set _ _ hi hj, at_set _ _ hi hj, at_set _ _ hi hj, at_set _ _ hi hj, bxs_at _ _ _ hi hj, bxs_at _ _ _ hi hj, z j hj]
    split
    · omega
    · rw [Nat.succ_mul]; omega) (by rw [Nat.mul_comm]; exact Nat.le_refl _)
  obtain ⟨y1, y2⟩ := x1.sum x2 (s := -1) (by decide)
  have e1 : pol (tm (leadP B i) (low r i)) = pol (leadP B i) * pol (low r i) := (D.f.mul rl).2
  have e2 : pol (tm (dvS B r i) (low B i)) = pol (dvS B r i) * pol (low B i) := (D.st.mul bl).2
  have eu : pol (upP i (degP r i)) = pol (upP i (degP r i - degP B i)) * pol (upP i (degP B i)) := by
    rw [← up_add hi]
    congr 2
    omega
  have same : dvR B r i = canon (sumP (tm (leadP B i) (low r i)) (tm (dvS B r i) (low B i)) (-1)) := by
    unfold dvR
    refine can_pol r1.can r1.bx.n4 y1.can y1.bx.n4 ?_
    rw [r2, y2, efr, esb, e1, e2, con_neg, ← er, ← eb, est, eu]
    grind
  have hNN : L * ((2 * L) ^ s * N) + L * ((2 * L) ^ s * N) = (2 * L) ^ (s + 1) * N := (pow_s L s N).symm
  refine ⟨q1.mono (B4.le.refl _) (Nat.le_of_eq hNN), ⟨degP r i - 1, ?_, by omega, by omega⟩, ?_⟩
  · rw [same]
    exact y1.mono (B4.le.refl _) (Nat.le_of_eq hNN)
  · have := I.ie
    have eq : pol (dvQ B q r i) = pol (leadP B i) * pol q + pol (dvS B r i) := by
      unfold dvQ
      rw [q2, efq, con_one]
      grind
    have er' : pol (dvR B r i) = pol (leadP B i) * pol r - pol (dvS B r i) * pol B := by
      unfold dvR
      rw [r2, efr, esb, con_neg]
      grind
    rw [eq, er']
    have ep : pol (leadP B i) ^ (s + 1) = pol (leadP B i) ^ s * pol (leadP B i) := Lean.Grind.Semiring.pow_succ _ _
    rw [ep]
    grind
theorem DvI.stop {A B : PT} {bA bB : B4} {N L i s : Nat} {q r : PT} (h : DvA A B bA bB N L i) (I : DvI A B bA bB N L i s 0 q r) : degP r i < degP B i := by
  obtain ⟨d, pr, _, hn⟩ := I.ir
  have := degP_bx h.i4 pr.bx
  omega
end Lw
set_option Elab.async false
set_option linter.all false
set_option maxRecDepth 100000
set_option maxHeartbeats 1000000
namespace Lw
open PySem PySem.Spec PyProof.Rows L2 BX
theorem ok_draw0 {P : Program} {w : World} {K : PySem.W.Frag} {mg : Str → Option Value} {base : Heap} {f : Addr} {fd : FuncData} (T : Txt K mg) (F : FunD K "_law_draw" "_law_draw" (defArgs s_L_draw) (defBody s_L_draw) (defScope s_L_draw) [] [] f fd) :
    FnOk P w K mg base CX0 1 f fd ["_law_hand_here", "_law_many"] (spDraw0 K) := by
  refine F.ok sc_L_draw (fun vs H Q E ⟨a, c, ns, many, t, g, s, u, H0, e, _⟩ => by subst e; rfl) (fun cdv A outer s H vs Q E hr h => ?_)
  refine ⟨_, PSs.nox
(pss_cons (ps_if (PW.pt (pw_and (pt_cmpR op_eq (pe_dget (hu_of hr) (pv 0) pe_str (fun _ _ => rfl)) pe_int (nomark _)) (pw_and1 (pt_cmpR op_lt (pe_dget (hu_of hr) (pv 0) pe_str (fun _ _ => rfl)) (pe_callB (k_len (K := K) rfl) rfl T.b_len boot_len (pa_cons (pe_dget (hu_of hr) (pv 0) pe_str (fun _ _ => rfl)) pa_nil)) (nomark _))))) (pss_cons (ps_set (i := 3) sc_L_draw.nd rfl (by first | exact Or.inl rfl | exact Or.inr rfl) (pe_ix (k_ixL (K := K) rfl) (pe_dget (hu_of hr) (pv 0) pe_str (fun _ _ => rfl)) (pe_dget (hu_of hr) (pv 0) pe_str (fun _ _ => rfl)) (fun _ _ => rfl))) (pss_cons (ps_dput (hu_of hr) (pv 0) pe_str (pe_op op_add (pe_dget (hu_of hr) (pv 0) pe_str (fun _ _ => rfl)) pe_int) rfl) (pss_cons (ps_dput (hu_of hr) (pv 0) pe_str (pe_op op_mod (pe_callTy k_int1 rfl T.b_int boot_int (pa_cons (pe_op op_add (pe_op op_add (pe_op op_mul (pe_dget (hu_of hr) (pv 0) pe_str (fun _ _ => rfl)) pe_int) (pv 3)) pe_int) pa_nil)) pe_int) rfl) (pss_cons (ps_if (pt_cmpR op_ge (pv 3) (pe_op op_pow pe_int pe_int) (nomark _)) (pss_cons (ps_dput (hu_of hr) (pv 0) pe_str (pv 3) rfl) pss_nil) pss_nil) pss_nil)))) pss_nil) (pss_cons (ps_if (pt_cmpR op_gt (pe_dget (hu_of hr) (pv 0) pe_str (fun _ _ => rfl)) pe_int (nomark _)) (pss_cons (ps_set (i := 4) sc_L_draw.nd rfl (by first | exact Or.inl rfl | exact Or.inr rfl) (pe_op op_mod (pe_callTy k_int1 rfl T.b_int boot_int (pa_cons (pe_dget (hu_of hr) (pv 0) pe_str (fun _ _ => rfl)) pa_nil)) (pv 1))) (pss_cons (ps_dput (hu_of hr) (pv 0) pe_str (pe_op op_fdivN (pe_dget (hu_of hr) (pv 0) pe_str (fun _ _ => rfl)) (pv 1)) rfl) (pss_cons (ps_ret (pv 4)) pss_nil))) pss_nil) (pss_cons (ps_dput (hu_of hr) (pv 0) pe_str (pe_op op_add (pe_dget (hu_of hr) (pv 0) pe_str (fun _ _ => rfl)) pe_int) rfl) (pss_cons (ps_set (i := 2) sc_L_draw.nd rfl (by first | exact Or.inl rfl | exact Or.inr rfl) (pe_op op_mod (pe_callTy k_int1 rfl T.b_int boot_int (pa_cons (pe_op op_mul (pe_callTy k_int1 rfl T.b_int boot_int (pa_cons (pe_op op_add (pe_op op_add (pe_dget (hu_of hr) (pv 0) pe_str (fun _ _ => rfl)) pe_int) (pe_op op_mul pe_int (pe_dget (hu_of hr) (pv 0) pe_str (fun _ _ => rfl)))) pa_nil)) pe_int) pa_nil)) pe_int)) (pss_cons (ps_set (i := 2) sc_L_draw.nd rfl (by first | exact Or.inl rfl | exact Or.inr rfl) (pe_op op_mod (pe_callTy k_int1 rfl T.b_int boot_int (pa_cons (pe_op op_mul (pv 2) (pe_op op_add (pe_op op_fdivN (pv 2) pe_int) pe_int)) pa_nil)) pe_int)) (pss_cons (ps_set (i := 2) sc_L_draw.nd rfl (by first | exact Or.inl rfl | exact Or.inr rfl) (pe_op op_mod (pe_callTy k_int1 rfl T.b_int boot_int (pa_cons (pe_op op_mul (pv 2) (pe_op op_add (pe_op op_fdivN (pv 2) pe_int) pe_int)) pa_nil)) pe_int)) (pss_cons (ps_ret (pe_op op_mod (pe_callTy k_int1 rfl T.b_int boot_int (pa_cons (pe_op op_fdivN (pv 2) pe_int) pa_nil)) (pv 1))) pss_nil)))))))
   , ?_⟩
  obtain ⟨a, c, ns, many, t, g, s, u, H0, rfl, rfl, hc, hm, hm2, ht, hq⟩ := h
  refine st_seqJ (fun σ H => ∃ t g s u x y z, 0 ≤ t ∧ σ = [some (.ref a), some (.int many), x, y, z] ∧ H = hH H0 a c t g s u) (fun nx' hn => ?_) fun σ H ⟨t, g, s, u, x, y, z, ht, e1, e2⟩ => ?_
  · refine tt_eq (ev_get (a := a) rfl (hH_at ..) rfl) ev_c ?_
    show if _ then _ else _
    split
    · refine tt_op0 (i := t) (j := (ns.length : Int)) (ev_get (a := a) rfl (hH_at ..) rfl) (fun Q q => ⟨_, rfl, a, .ref c, rfl, DGet.k (k := .inr "cells") (hH_at ..), c, _, rfl, .inl (hc t g s u), by rw [List.length_map]; exact q⟩) ?_
      show if _ then _ else _
      split
      · rename_i _ hlt
        have hlt := of_decide_eq_true hlt
        obtain ⟨n, rfl⟩ : ∃ n : Nat, t = n := ⟨t.toNat, (Int.toNat_of_nonneg ht).symm⟩
        have hn' : n < ns.length := by omega
        refine st_asg (i := ns[n]) (fun Q q => ⟨_, rfl, a, .ref c, rfl, DGet.k (k := .inr "cells") (hH_at ..), ev_get (a := a) rfl (hH_at ..) rfl _ ⟨c, _, _, _, rfl, rfl, hc n g s u, atI_nat (by rw [List.getElem?_map, List.getElem?_eq_getElem hn']; rfl), q⟩⟩) ?_
        refine st_at (ev_op0 (g := fun i j => i + j) (ev_at rfl) ev_c) rfl ?_
        refine st_se (ev_op (g := fun i j => i % j) (ev_int (ev_op0 (g := fun i j => i + j) (ev_op0 (g := fun i j => i + j) (ev_op (g := fun i j => i * j) (ev_se rfl) ev_c (cmulR (by decide) (by decide))) (ev_var rfl)) ev_c)) ev_c (by decide)) rfl ?_
        refine tt_op0 (g := fun i j => decide (j ≤ i)) (ev_var rfl) (ev_op (g := fun i j => i ^ j.toNat) ev_c ev_c (by unfold CPow; decide)) ?_
        show if _ then _ else _
        split
        · refine st_gr (ev_var rfl) rfl ?_
          exact hn _ _ ⟨_, _, _, _, _, _, _, by omega, rfl, rfl⟩
        · exact hn _ _ ⟨_, _, _, _, _, _, _, by omega, rfl, rfl⟩
      · exact hn _ _ ⟨_, _, _, _, _, _, _, ht, rfl, rfl⟩
    · exact hn _ _ ⟨_, _, _, _, _, _, _, ht, rfl, rfl⟩
  · subst e1 e2
    refine st_seqJ (fun σ H => ∃ t g s u x y z, 0 ≤ t ∧ σ = [some (.ref a), some (.int many), x, y, z] ∧ H = hH H0 a c t g s u) (fun nx' hn => ?_) fun σ H ⟨t, g, s, u, x, y, z, ht, e1, e2⟩ => ?_
    · refine tt_op0 (g := fun i j => decide (j < i)) (ev_gr rfl) ev_c ?_
      show if _ then _ else _
      split
      · refine st_asg (ev_op (g := fun i j => i % j) (ev_int (ev_gr rfl)) (ev_var rfl) hm) ?_
        refine st_gr (ev_op (g := fun i j => i.fdiv j) (ev_gr rfl) (ev_var rfl) ⟨by omega, by omega⟩) rfl ?_
        refine st_ret (ev_var rfl) ?_
        exact hq _ _ _ _ _ (Int.emod_nonneg _ (by omega)) (Int.emod_lt_of_pos _ hm) ht
      · exact hn _ _ ⟨_, _, _, _, _, _, _, ht, rfl, rfl⟩
    · subst e1 e2
      refine st_tu (ev_op0 (g := fun i j => i + j) (ev_tu rfl) ev_c) rfl ?_
      refine st_asg (ev_op (g := fun i j => i % j) (ev_int (ev_op (g := fun i j => i * j) (ev_int (ev_op0 (g := fun i j => i + j) (ev_op0 (g := fun i j => i + j) (ev_se rfl) ev_c) (ev_op (g := fun i j => i * j) ev_c (ev_tu rfl) (cmulL (by decide) (by decide))))) ev_c (cmulR (by decide) (by decide)))) ev_c (by decide)) ?_
      refine st_asg (ev_op (g := fun i j => i % j) (ev_int (ev_op (g := fun i j => i * j) (ev_var rfl) (ev_op0 (g := fun i j => i + j) (ev_op (g := fun i j => i.fdiv j) (ev_var rfl) ev_c ⟨by decide, by decide⟩) ev_c) (cmulS (by decide) (by decide) rfl))) ev_c (by decide)) ?_
      refine st_asg (ev_op (g := fun i j => i % j) (ev_int (ev_op (g := fun i j => i * j) (ev_var rfl) (ev_op0 (g := fun i j => i + j) (ev_op (g := fun i j => i.fdiv j) (ev_var rfl) ev_c ⟨by decide, by decide⟩) ev_c) (cmulS (by decide) (by decide) rfl))) ev_c (by decide)) ?_
      refine st_ret (ev_op (g := fun i j => i % j) (ev_int (ev_op (g := fun i j => i.fdiv j) (ev_var rfl) ev_c ⟨by decide, by decide⟩)) (ev_var rfl) hm) ?_
      exact hq _ _ _ _ _ (Int.emod_nonneg _ (by omega)) (Int.emod_lt_of_pos _ hm) ht
abbrev S_L_draw (P : Program) (w : World) (K : PySem.W.Frag) : Spc := S_draw P w
abbrev S_L_hand (P : Program) (w : World) (K : PySem.W.Frag) : Spc := S_hand P w K
theorem ok_L_draw {P : Program} {w : World} {K : PySem.W.Frag} {mg : Str → Option Value} {base : Heap} {f : Addr} {fd : FuncData} (T : Txt K mg) (F : FunD K "_law_draw" "_law_draw" (defArgs s_L_draw) (defBody s_L_draw) (defScope s_L_draw) [] [] f fd) :
    FnOk P w K mg base CX0 1 f fd ["_law_hand_here", "_law_many"] (spOf (S_L_draw P w K)) := draw_re (ok_draw0 T F)
theorem ok_hand0 {P : Program} {w : World} {K : PySem.W.Frag} {mg : Str → Option Value} {base : Heap} {f : Addr} {fd : FuncData} (T : Txt K mg) (F : FunD K "_law_hand" "_law_hand" (defArgs s_L_hand) (defBody s_L_hand) (defScope s_L_hand) [] [] f fd) :
    FnOk P w K mg base CX0 1 f fd ["_law_script"] (spHand0 K) := by
  refine F.ok sc_L_hand (fun vs H Q E ⟨ns, hal, _⟩ => (Paired.length hal).symm) (fun cdv A outer s H vs Q E hr h => ?_)
  refine ⟨_, PSs.nox
(pss_cons (ps_setLc (i := 1) (own := [("_law_cell", 2)]) (g := gName 2) (tt := tYes) rfl sc_L_hand.nd rfl rfl (sw_true rfl rfl rfl (by decide +kernel)) (q_list (K := K) rfl (pe_frz (pe_slice (k_slL (K := K) rfl) (pv 0) po_none (po_some pe_int)))) (blkOk_by (own := [("_law_cell", 2)]) (N := ["_law_script", "_law_cells", "_law_cell"]) (sc := defScope s_L_hand) (by decide +kernel)) (fun _ _ _ _ _ => (pg_name (i := 2) sc_L_hand.nd rfl (by first | exact Or.inl rfl | exact Or.inr rfl))) (fun _ _ _ _ _ => pts_nil) (fun _ _ _ _ _ => (pe_callB k_abs rfl T.b_abs boot_abs (pa_cons (pe_callTy k_int1 rfl T.b_int boot_int (pa_cons (pv 2) pa_nil)) pa_nil)))) (pss_frz 1 (pss_cons (ps_ret (pe_disp (pps_cons pe_str (pv 1) (pps_cons pe_str pe_int (pps_cons pe_str pe_int (pps_cons pe_str (pe_op op_add pe_int (pe_callB (k_len (K := K) rfl) rfl T.b_len boot_len (pa_cons (pv 1) pa_nil))) (pps_cons pe_str pe_int pps_nil))))) (by rfl) (by rfl) (fun z => by cases z) (by decide))) pss_nil)))
   , ?_⟩
  obtain ⟨ns, hal, hz, hq⟩ := h
  refine (?_ : WpS (bd P w K H) { nx := fun _ H' => Q .non H', rt := Q } (ctx0 _ [rScr K ns]) _) _ _ (env0 (B := bd P w K H) (fun _ => trivial) (n := 3) rfl hal)
  (refine ws_asgL ?_)
  refine wl_lcM (cutR ns none (some 63)) (g := rInt) (h := fun i => rInt (if i < 0 then -i else i)) ?_
  (refine wi_list ?_)
  refine we_frzL ?_
  refine wl_slS ?_
  (refine we_var rfl ?_; refine ⟨_, rfl, ?_⟩; refine wo_none ?_; refine wo_some ?_; refine we_c ?_; refine ⟨_, rfl, ?_⟩; refine ⟨_, rfl, ?_⟩)
  rw [cutR_map]
  refine ⟨by rw [List.length_map], fun i hi => getD_map hi, Nat.le_trans (cutR_len ..) hz, fun i hi G st => ⟨_, _, ?_, wg_name, ?_⟩, ?_⟩
  · intro j hj; exact hj
  · ((first | refine we_cb ?_ | refine we_xlen ?_); refine wa_cons ?_; (first | refine we_cb ?_ | refine we_xlen ?_); refine wa_cons ?_; refine we_var rfl ?_; refine wa_nil ?_; (first | refine ct_int ?_ | refine ct_intB ?_); refine wa_nil ?_; refine ct_abs ?_)
    rfl
  ((first | refine ws_frzX rfl ?_ | refine ws_frzL rfl ?_))
  refine fun σ H1 E1 => ?_
  obtain ⟨ov, h1, v, rfl, c, o, xs, rfl, hc, halc⟩ := E1.ty 1 _ rfl
  have eL : (cutR ns none (some 63)).map (fun i => rInt (if i < 0 then -i else i)) = ((cutR ns none (some 63)).map fun i : Int => if i < 0 then -i else i).map rInt := by rw [List.map_map]; rfl
  rw [eL] at halc
  rw [al_map_int halc] at hc
  have sm := E1.ex
  intro p hp
  have hne : c ≠ p := fun z => by rw [z, hp] at hc; cases hc
  have hc' : upd H1 p (.dK []) c = some (.frz o (.lst (((cutR ns none (some 63)).map fun i : Int => if i < 0 then -i else i).map V.int))) := by rw [upd_ne hne]; exact hc
  refine ⟨_, h1, ⟨_, h1, c, _, rfl, .inl (.inl (.inr ⟨o, hc'⟩)), 977, _, rfl, rfl, ?_⟩⟩
  refine ⟨upd_same, hkv c 0 0 (977 + _) 0, rfl, Nat.le_of_ble_eq_true rfl, ?_⟩
  have e : upd (upd H1 p (.dK [])) p (.dK (mergeK [] (hkv c 0 0 (977 + ((((cutR ns none (some 63)).map fun i : Int => if i < 0 then -i else i).map V.int).length : Int)) 0))) = hH H1 p c 0 0 (977 + ((((cutR ns none (some 63)).map fun i : Int => if i < 0 then -i else i).map V.int).length : Int)) 0 := upd_upd
  rw [e]
  exact hq p c o _ _ H1 sm hp hc
theorem ok_L_hand {P : Program} {w : World} {K : PySem.W.Frag} {mg : Str → Option Value} {base : Heap} {f : Addr} {fd : FuncData} (T : Txt K mg) (F : FunD K "_law_hand" "_law_hand" (defArgs s_L_hand) (defBody s_L_hand) (defScope s_L_hand) [] [] f fd) :
    FnOk P w K mg base CX0 1 f fd ["_law_script"] (spOf (S_L_hand P w K)) := hand_re (ok_hand0 T F)
end Lw
set_option Elab.async false
set_option linter.all false
set_option maxRecDepth 100000
set_option maxHeartbeats 1000000
namespace Lw
open PySem PySem.Spec PyProof.Rows L2 BX
def S_L_any (P : Program) (w : World) (K : PySem.W.Frag) : Spc := fun rs k => ∃ L : List Rel, rs = [rHand P w, rLst L] ∧ 0 < L.length ∧ L.length < 1000 ∧ ∀ r ∈ L, k r
theorem ok_L_any {P : Program} {w : World} {K : PySem.W.Frag} {mg : Str → Option Value} {base : Heap} {f : Addr} {fd fd_L_draw : FuncData} (T : Txt K mg) (F : FunD K "_law_any" "_law_any" (defArgs s_L_any) (defBody s_L_any) (defScope s_L_any) [] [] f fd) (c_L_draw : Callee P w K mg base (He.ga K "_law_draw") fd_L_draw ["_law_hand_here", "_law_many"] 1 (spOf (S_L_draw P w K)))  :
    FnOk P w K mg base CX0 2 f fd ["_law_hand_here", "_law_things"] (spOf (S_L_any P w K)) := by
  refine F.ok sc_L_any (len_of (by intro rs k h; first | (obtain ⟨e, _⟩ := h; subst e; exact rfl) | (obtain ⟨_, e, _⟩ := h; subst e; exact rfl) | (obtain ⟨_, _, e, _⟩ := h; subst e; exact rfl) | (obtain ⟨_, _, _, e, _⟩ := h; subst e; exact rfl) | (obtain ⟨_, _, _, _, e, _⟩ := h; subst e; exact rfl) | (obtain ⟨_, _, _, _, _, e, _⟩ := h; subst e; exact rfl) | (obtain ⟨_, _, _, _, _, _, e, _⟩ := h; subst e; exact rfl) | (obtain ⟨_, _, _, _, _, _, _, e, _⟩ := h; subst e; exact rfl) | (obtain ⟨_, _, _, _, _, _, _, _, e, _⟩ := h; subst e; exact rfl) | (obtain ⟨_, _, _, _, _, _, _, _, _, e, _⟩ := h; subst e; exact rfl) | (obtain ⟨_, _, _, _, _, _, _, _, _, _, e, _⟩ := h; subst e; exact rfl) | (obtain ⟨_, _, _, _, _, _, _, _, _, _, _, e, _⟩ := h; subst e; exact rfl) | (obtain ⟨_, _, _, _, _, _, _, _, _, _, _, _, e, _⟩ := h; subst e; exact rfl))) (fun cdv A outer s H vs Q E hr h => ?_)
  
  refine ⟨_, PSs.nox (pss_cons (ps_ret (pe_ix (k_ixL (K := K) rfl) (pv 1) (pe_call (c_L_draw.F.mono (by decide)) hr rfl T.g_L_draw c_L_draw.kp c_L_draw.b .nil pass0 (pa_cons (pv 0) (pa_cons (pe_callB (k_len (K := K) rfl) rfl T.b_len boot_len (pa_cons (pv 1) pa_nil)) pa_nil))) (fun _ _ => rfl))) pss_nil), ?_⟩
  refine read_of P w K h rfl fun rs k D hs hD hN => ?_
  obtain ⟨L, rfl, h0, h1, hk⟩ := hs
  (refine ws_retS (by assumption) ?_; refine we_op ?_; refine we_var rfl ?_; refine we_call ?_; refine wa_cons ?_; refine we_var rfl ?_; refine wa_cons ?_; (first | refine we_cb ?_ | refine we_xlen ?_); refine wa_cons ?_; refine we_var rfl ?_; refine wa_nil ?_; (first | refine ct_lenT ?_ | refine ct_lenL ?_); refine wa_nil ?_)
  refine ⟨(L.length : Int), rfl, by omega, by omega, fun d d0 d1 => ?_⟩
  obtain ⟨n, rfl⟩ : ∃ n : Nat, d = n := ⟨d.toNat, (Int.toNat_of_nonneg d0).symm⟩
  have hn : n < L.length := by omega
  exact ot_ixL (r := L[n]) (atI_nat (List.getElem?_eq_getElem hn)) (hk _ (List.getElem_mem hn))
def numP (n : Int) : PT := if n = 0 then [] else [([0, 0, 0, 0], n)]
def S_L_num (P : Program) (w : World) (K : PySem.W.Frag) : Spc := fun rs k => ∃ n : Int, rs = [rInt n] ∧ k (rDI P w K (numP n))
theorem ok_L_num {P : Program} {w : World} {K : PySem.W.Frag} {mg : Str → Option Value} {base : Heap} {f : Addr} {fd : FuncData} (T : Txt K mg) (F : FunD K "_law_num" "_law_num" (defArgs s_L_num) (defBody s_L_num) (defScope s_L_num) [] [] f fd)   :
    FnOk P w K mg base CX0 1 f fd ["_law_number"] (spOf (S_L_num P w K)) := by
  refine F.ok sc_L_num (len_of (by intro rs k h; first | (obtain ⟨e, _⟩ := h; subst e; exact rfl) | (obtain ⟨_, e, _⟩ := h; subst e; exact rfl) | (obtain ⟨_, _, e, _⟩ := h; subst e; exact rfl) | (obtain ⟨_, _, _, e, _⟩ := h; subst e; exact rfl) | (obtain ⟨_, _, _, _, e, _⟩ := h; subst e; exact rfl) | (obtain ⟨_, _, _, _, _, e, _⟩ := h; subst e; exact rfl) | (obtain ⟨_, _, _, _, _, _, e, _⟩ := h; subst e; exact rfl) | (obtain ⟨_, _, _, _, _, _, _, e, _⟩ := h; subst e; exact rfl) | (obtain ⟨_, _, _, _, _, _, _, _, e, _⟩ := h; subst e; exact rfl) | (obtain ⟨_, _, _, _, _, _, _, _, _, e, _⟩ := h; subst e; exact rfl) | (obtain ⟨_, _, _, _, _, _, _, _, _, _, e, _⟩ := h; subst e; exact rfl) | (obtain ⟨_, _, _, _, _, _, _, _, _, _, _, e, _⟩ := h; subst e; exact rfl) | (obtain ⟨_, _, _, _, _, _, _, _, _, _, _, _, e, _⟩ := h; subst e; exact rfl))) (fun cdv A outer s H vs Q E hr h => ?_)
  
  refine ⟨_, PSs.nox (pss_cons (ps_ret (pe_ifExp (pt_cmpR op_ne (pv 0) pe_int (nomark _)) (pe_frz (q_disp (P := P) (w := w) (K := K) rfl rfl rfl hr.units (pps_cons (pe_tup (pa_cons pe_int (pa_cons pe_int (pa_cons pe_int (pa_cons pe_int pa_nil))))) (pv 0) pps_nil) (by rfl) (by rfl) (fun z => by cases z) (by decide))) (pe_frz (q_new (P := P) (w := w) rfl rfl)))) pss_nil), ?_⟩
  refine read_of P w K h rfl fun rs k D hs hD hN => ?_
  obtain ⟨n, rfl, hk⟩ := hs
  unfold numP at hk
  (refine ws_retS (by assumption) ?_; refine we_if ?_; refine wt_test ?_; refine we_op ?_; refine we_var rfl ?_; refine we_c ?_; refine ot_ne rfl ?_; refine ⟨_, rfl, ?_⟩)
  rw [dec_int]
  refine ⟨fun z => ?_, fun z => ?_⟩
  · have z' : ¬ n = 0 := by simpa using z
    rw [if_neg z'] at hk
    ((refine we_frzX ?_; refine wx_xdisp ?_); (first | refine wp_cons ?_ | refine wp_nil ?_); refine we_tup ?_; refine wa_cons ?_; refine we_c ?_; refine wa_cons ?_; refine we_c ?_; refine wa_cons ?_; refine we_c ?_; refine wa_cons ?_; refine we_c ?_; refine wa_nil ?_; refine ⟨Nat.le_of_ble_eq_true rfl, ?_⟩)
    refine ⟨[0, 0, 0, 0], rfl, ?_⟩
    (refine we_var rfl ?_; (first | refine wp_cons ?_ | refine wp_nil ?_); refine ⟨Nat.le_of_ble_eq_true rfl, ?_⟩)
    exact hk
  · have z' : n = 0 := by simpa using z
    rw [if_pos z'] at hk
    ((refine we_frzX ?_; refine wx_new ?_))
    exact hk
def S_L_var (P : Program) (w : World) (K : PySem.W.Frag) : Spc := fun rs k => ∃ i : Nat, rs = [rInt (i : Int)] ∧ k (rDI P w K (upP i 1))
theorem ok_L_var {P : Program} {w : World} {K : PySem.W.Frag} {mg : Str → Option Value} {base : Heap} {f : Addr} {fd : FuncData} (T : Txt K mg) (F : FunD K "_law_var" "_law_var" (defArgs s_L_var) (defBody s_L_var) (defScope s_L_var) [] [] f fd)   :
    FnOk P w K mg base CX0 1 f fd ["_law_k"] (spOf (S_L_var P w K)) := by
  refine F.ok sc_L_var (len_of (by intro rs k h; first | (obtain ⟨e, _⟩ := h; subst e; exact rfl) | (obtain ⟨_, e, _⟩ := h; subst e; exact rfl) | (obtain ⟨_, _, e, _⟩ := h; subst e; exact rfl) | (obtain ⟨_, _, _, e, _⟩ := h; subst e; exact rfl) | (obtain ⟨_, _, _, _, e, _⟩ := h; subst e; exact rfl) | (obtain ⟨_, _, _, _, _, e, _⟩ := h; subst e; exact rfl) | (obtain ⟨_, _, _, _, _, _, e, _⟩ := h; subst e; exact rfl) | (obtain ⟨_, _, _, _, _, _, _, e, _⟩ := h; subst e; exact rfl) | (obtain ⟨_, _, _, _, _, _, _, _, e, _⟩ := h; subst e; exact rfl) | (obtain ⟨_, _, _, _, _, _, _, _, _, e, _⟩ := h; subst e; exact rfl) | (obtain ⟨_, _, _, _, _, _, _, _, _, _, e, _⟩ := h; subst e; exact rfl) | (obtain ⟨_, _, _, _, _, _, _, _, _, _, _, e, _⟩ := h; subst e; exact rfl) | (obtain ⟨_, _, _, _, _, _, _, _, _, _, _, _, e, _⟩ := h; subst e; exact rfl))) (fun cdv A outer s H vs Q E hr h => ?_)
  
  refine ⟨_, PSs.nox (pss_cons (ps_ret (pe_frz (q_disp (P := P) (w := w) (K := K) rfl rfl rfl hr.units (pps_cons (pe_callTy (k_tupleOf (K := K) rfl) rfl T.b_tuple boot_tuple (pa_cons (pe_frz (pe_lc (own := [("_law_other", 1)]) (g := gName 1) (tt := tYes) rfl sc_L_var.nd (pi_range1 rfl T.b_range (pa_cons pe_int pa_nil)) (blkOk_by (own := [("_law_other", 1)]) (N := ["_law_k", "_law_other"]) (sc := defScope s_L_var) (by decide +kernel)) (fun _ _ _ _ _ => (pg_name (i := 1) sc_L_var.nd rfl (by first | exact Or.inl rfl | exact Or.inr rfl))) (fun _ _ _ _ _ => pts_nil) (fun _ _ _ _ _ => (pe_callTy k_int1 rfl T.b_int boot_int (pa_cons (pe_cmpR op_eq (pv 1) (pv 0) (nomark _)) pa_nil))))) pa_nil)) pe_int pps_nil) (by rfl) (by rfl) (fun z => by cases z) (by decide)))) pss_nil), ?_⟩
  refine read_of P w K h rfl fun rs k D hs hD hN => ?_
  obtain ⟨i, rfl, hk⟩ := hs
  (refine ws_retS (by assumption) ?_; (refine we_frzX ?_; refine wx_xdisp ?_); (first | refine wp_cons ?_ | refine wp_nil ?_); (first | refine we_cb ?_ | refine we_xlen ?_); refine wa_cons ?_; refine we_frzL ?_)
  refine wl_lcM (List.range 4) (g := fun j => rInt (j : Int)) (h := fun j => rInt (if j = i then 1 else 0)) ?_
  (refine wi_rng1 ?_; refine wa_cons ?_; refine we_c ?_; refine wa_nil ?_; refine ⟨_, rfl, ?_⟩)
  refine ⟨by decide, by decide, rfl, fun j hj => by rw [List.getElem_range], by decide, fun j hj G st => ?_, ?_⟩
  · refine ⟨_, _, ?_, wg_name, ?_⟩
    · intro j hj; exact hj
    · ((first | refine we_cb ?_ | refine we_xlen ?_); refine wa_cons ?_; refine we_op ?_; refine we_var rfl ?_; refine we_var rfl ?_; refine ot_eq rfl ?_; refine wa_nil ?_; (first | refine ct_int ?_ | refine ct_intB ?_))
      rw [dec_int, show decide ((j : Int) = (i : Int)) = decide (j = i) from by rw [decide_eq_decide]; omega]
      by_cases e : j = i
      · rw [if_pos e, if_pos (decide_eq_true e)]
      · rw [if_neg e, if_neg (by rw [decide_eq_false e]; decide)]
  · (refine wa_nil ?_; refine ct_tuple ?_)
    refine ⟨pwOf i 1, ?_, ?_⟩
    · unfold pwOf
      show _ = rTup K (((List.range 4).map _).map rInt)
      rw [List.map_map]
      rfl
    (refine we_c ?_; (first | refine wp_cons ?_ | refine wp_nil ?_); refine ⟨Nat.le_of_ble_eq_true rfl, ?_⟩)
    exact hk
theorem keyD {K : PySem.W.Frag} {L : PT} {i : Nat} (hi : i < L.length) : rKey K ((L.map ((fun x => x.1) ∘ fun e : List Int × Int => (e.1, rInt e.2))).getD i []) = rKey K L[i].1 := by
  rw [List.getD_eq_getElem?_getD, List.getElem?_map, List.getElem?_eq_getElem hi]
  rfl
theorem get_mem {m : PT} (nd : (m.map (·.1)).Nodup) {t : List Int × Int} (h : t ∈ m) : getM (mI m) t.1 = some (rInt t.2) := by
  rw [show getM (mI m) t.1 = (getM m t.1).map rInt from getM_map rInt m t.1, getM_mem nd h]
  rfl
theorem mI_keys (m : PT) : (mI m).map (·.1) = m.map (·.1) := by rw [List.map_map]; rfl
theorem nz_tb {m : PT} (h : Tb m) : Tb (nz m) := by
  have p := (nz_perm m).symm
  have c : Tb (canon m) := Tb.canon h
  exact ⟨(p.map _).nodup_iff.mp c.nd, fun e he => c.n4 e (p.mem_iff.mpr he)⟩
def S_L_plus (P : Program) (w : World) (K : PySem.W.Frag) : Spc := fun rs k => ∃ (A B : PT) (s : Int) (n : Nat), rs = [rDI P w K A, rDI P w K B, rInt s] ∧ Tb A ∧ Tb B ∧ A.length + B.length ≤ 16777000 ∧ s.natAbs < 8 ∧ BdP n B ∧ 0 < n ∧ n ≤ 900000 ∧ k (rDI P w K (nz (sumP A B s)))
theorem ok_L_plus {P : Program} {w : World} {K : PySem.W.Frag} {mg : Str → Option Value} {base : Heap} {f : Addr} {fd : FuncData} (T : Txt K mg) (F : FunD K "_law_plus" "_law_plus" (defArgs s_L_plus) (defBody s_L_plus) (defScope s_L_plus) [] [] f fd)   :
    FnOk P w K mg base CX0 1 f fd ["_law_one", "_law_other", "_law_by"] (spOf (S_L_plus P w K)) := by
  refine F.ok sc_L_plus (len_of (by intro rs k h; first | (obtain ⟨e, _⟩ := h; subst e; exact rfl) | (obtain ⟨_, e, _⟩ := h; subst e; exact rfl) | (obtain ⟨_, _, e, _⟩ := h; subst e; exact rfl) | (obtain ⟨_, _, _, e, _⟩ := h; subst e; exact rfl) | (obtain ⟨_, _, _, _, e, _⟩ := h; subst e; exact rfl) | (obtain ⟨_, _, _, _, _, e, _⟩ := h; subst e; exact rfl) | (obtain ⟨_, _, _, _, _, _, e, _⟩ := h; subst e; exact rfl) | (obtain ⟨_, _, _, _, _, _, _, e, _⟩ := h; subst e; exact rfl) | (obtain ⟨_, _, _, _, _, _, _, _, e, _⟩ := h; subst e; exact rfl) | (obtain ⟨_, _, _, _, _, _, _, _, _, e, _⟩ := h; subst e; exact rfl) | (obtain ⟨_, _, _, _, _, _, _, _, _, _, e, _⟩ := h; subst e; exact rfl) | (obtain ⟨_, _, _, _, _, _, _, _, _, _, _, e, _⟩ := h; subst e; exact rfl) | (obtain ⟨_, _, _, _, _, _, _, _, _, _, _, _, e, _⟩ := h; subst e; exact rfl))) (fun cdv A outer s H vs Q E hr h => ?_)
  
  refine ⟨_, PSs.nox (pss_cons (ps_set (i := 3) sc_L_plus.nd rfl (by first | exact Or.inl rfl | exact Or.inr rfl) (pe_callTy (k_xpairs (P := P) (w := w) (K := K) rfl rfl rfl rfl hr.units) rfl T.b_dict boot_dict (pa_cons (pe_frz (pe_callTy (k_xitems (P := P) (w := w) rfl rfl rfl) rfl T.b_list boot_list (pa_cons (q_items (P := P) (w := w) (K := K) rfl rfl rfl (pv 0)) pa_nil))) pa_nil))) (pss_cons (ps_for PassesOwn.never rfl (q_keys (P := P) (w := w) rfl rfl (pv 1)) (pg_name (i := 4) sc_L_plus.nd rfl (by first | exact Or.inl rfl | exact Or.inr rfl)) (pss_cons (q_put (P := P) (w := w) (K := K) rfl rfl rfl (hu_of hr) (pv 3) (pv 4) (pe_op op_add (q_get2 (P := P) (w := w) (K := K) rfl rfl rfl (hu_of hr) (pv 3) (pv 4) pe_int ⟨rfl, rfl, rfl, rfl⟩) (pe_op op_mulW (pv 2) (q_get (P := P) (w := w) (K := K) rfl rfl rfl (hu_of hr) (pv 1) (pv 4) (fun _ _ => rfl)))) rfl) pss_nil)) (pss_frz 3 (pss_cons (ps_ret (pe_frz (pe_callTy (k_xpairs (P := P) (w := w) (K := K) rfl rfl rfl rfl hr.units) rfl T.b_dict boot_dict (pa_cons (pe_frz (pe_lc (own := [("_law_powers", 4)]) (g := gName 4) rfl sc_L_plus.nd (q_keys (P := P) (w := w) rfl rfl (pv 3)) (blkOk_by (own := [("_law_powers", 4)]) (N := ["_law_one", "_law_other", "_law_by", "_law_found", "_law_powers"]) (sc := defScope s_L_plus) (by decide +kernel)) (fun _ _ _ _ _ => (pg_name (i := 4) sc_L_plus.nd rfl (by first | exact Or.inl rfl | exact Or.inr rfl))) (fun _ _ _ _ _ => (pts_one (pt_cmpR op_ne (q_get (P := P) (w := w) (K := K) rfl rfl rfl (hu_of hr) (pv 3) (pv 4) (fun _ _ => rfl)) pe_int (nomark _)))) (fun _ _ _ _ _ => (pe_tup (pa_cons (pv 4) (pa_cons (q_get (P := P) (w := w) (K := K) rfl rfl rfl (hu_of hr) (pv 3) (pv 4) (fun _ _ => rfl)) pa_nil)))))) pa_nil)))) pss_nil)))), ?_⟩
  refine read_of P w K h rfl fun rs k D hs hD hN => ?_
  obtain ⟨A', B', s', n, rfl, hA, hB, hz, hs1, hb, hn0, hn, hk⟩ := hs
  ((first | (refine ws_asgX ?_; refine wx_xpairs ?_) | refine ws_asg ?_); (first | (refine we_frzX ?_; refine wx_xpairs ?_) | (refine we_frzL ?_; first | refine wl_xsorted ?_ | refine wl_xitems ?_ | refine wl_listT ?_)); (first | refine wq_var rfl ?_ | refine wq_e ?_); refine we_var rfl ?_; refine ⟨_, rfl, ?_⟩; refine ⟨_, rfl, ?_⟩)
  rw [mI_foldM]
  refine ws_forF B' (g := fun t => rKey K t.1) (foldM A') (fun m t => putA m t.1 (s' * t.2)) (fun m => [.im (rDI P w K A'), .im (rDI P w K B'), .im (rInt s'), .mx (mI m), .no]) ?_
  (refine wi_xkeys ?_; refine we_var rfl ?_; refine ⟨_, rfl, ?_⟩)
  refine ⟨by rw [List.length_map], fun i hi => by rw [List.map_map]; exact keyD hi, by (repeat' (first | exact Weak.nil | apply Weak.eq | apply Weak.no)), fun i hi G st => ?_, ?_⟩
  · generalize hm : (B'.take i).foldl (fun m t => putA m t.1 (s' * t.2)) (foldM A') = m
    have hl : m.length < sizeLine := by
      have a := foldl_len (B'.take i) (fun m t => putA m t.1 (s' * t.2)) (fun m x => putM_len m x.1 _) (foldM A')
      have b := foldM_len A'
      rw [hm, List.length_take] at a
      rw [sizeLine_eq]
      omega
    refine ⟨_, _, wg_name, ?_⟩
    (refine ws_xput rfl ?_; refine we_op ?_; refine we_xget2 ?_; (first | refine wq_var rfl ?_ | refine wq_e ?_); refine we_var rfl ?_; refine ⟨_, rfl, ?_⟩; refine we_c ?_; refine we_op ?_; refine we_var rfl ?_; refine we_xget ?_; (first | refine wq_var rfl ?_ | refine wq_e ?_); refine we_var rfl ?_; refine ⟨_, rfl, ?_⟩; refine we_var rfl ?_)
    refine ⟨B'[i].1, _, rfl, get_mem hB.nd (List.getElem_mem hi), ?_⟩
    (refine ot_I ?_ ?_)
    · exact wide_mul (a := 3) (by omega) (hb _ (List.getElem_mem hi)) (by decide) hn0 (by omega)
    rw [gets]
    (refine ot_I0 ?_; refine we_var rfl ?_; refine ⟨_, rfl, ?_⟩)
    rw [putI]
    exact ⟨by rw [List.length_map]; exact hl, ws_nextW rfl (by (repeat' (first | exact Weak.nil | apply Weak.eq | apply Weak.no)))⟩
  · have tb : Tb (sumP A' B' s') := (sumP_tb hA hB.n4 s').1
    have hl : (sumP A' B' s').length ≤ sizeLine := by
      have := sumP_len A' B' s'
      rw [sizeLine_eq]
      omega
    show WpS _ _ [_, _, _, .mx (mI (sumP A' B' s')), _] _
    generalize sumP A' B' s' = m at tb hl hk
    ((first | refine ws_frzX rfl ?_ | refine ws_frzL rfl ?_); refine ws_retS (by assumption) ?_; (first | (refine we_frzX ?_; refine wx_xpairs ?_) | (refine we_frzL ?_; first | refine wl_xsorted ?_ | refine wl_xitems ?_ | refine wl_listT ?_)); refine we_frzL ?_)
    refine wl_lcF (m.map (·.1)) (g := rKey K) (f := canonF m) (h := fun t => rTup K [rKey K t.1, rInt t.2]) ?_
    (refine wi_xkeys ?_; refine we_var rfl ?_; refine ⟨_, rfl, ?_⟩)
    refine ⟨by rw [List.length_map, List.length_map], fun i hi => ?_, by rw [List.length_map]; exact hl, fun x hx G st => ?_, ?_⟩
    · show rKey K ((((mI m).map (·.1))).getD i []) = _
      rw [mI_keys]
      rw [List.getD_eq_getElem?_getD, List.getElem?_eq_getElem hi]
      rfl
    · refine ⟨_, _, ?_, wg_name, ?_⟩
      · intro j hj; exact hj
      · (refine wt_test ?_; refine we_op ?_; refine we_xget ?_; (first | refine wq_var rfl ?_ | refine wq_e ?_); refine we_var rfl ?_; refine ⟨_, rfl, ?_⟩; refine we_var rfl ?_)
        refine ⟨x, _, rfl, key_get hx, ?_⟩
        (refine we_c ?_; refine ot_ne rfl ?_; refine ⟨_, rfl, ?_⟩)
        rw [dec_int]
        refine ⟨fun hb => ?_, fun hb => ?_⟩
        · have hc : cf m x ≠ 0 := by simpa using hb
          refine ⟨(x, cf m x), by unfold canonF; rw [if_neg hc], ?_⟩
          (refine we_tup ?_; refine wa_cons ?_; refine we_var rfl ?_; refine wa_cons ?_; refine we_xget ?_; (first | refine wq_var rfl ?_ | refine wq_e ?_); refine we_var rfl ?_; refine ⟨_, rfl, ?_⟩; refine we_var rfl ?_)
          refine ⟨x, _, rfl, key_get hx, ?_⟩
          (refine wa_nil ?_; refine ⟨Nat.le_of_ble_eq_true rfl, ?_⟩)
          rfl
        · have hc : cf m x = 0 := by simpa using hb
          unfold canonF
          rw [if_pos hc]
    · skip
      refine ⟨mI (nz m), ?_, ?_⟩
      · show _ = rLst ((mI (nz m)).map (rEnt K))
        rw [List.map_map]
        rfl
      · rw [mI_foldM, foldM_tb (nz_tb tb)]
        exact hk
def S_L_mark (P : Program) (w : World) (K : PySem.W.Frag) : Spc := fun rs k => ∃ r : Rel, rs = [r] ∧ k (rLst [rStr "P", r])
theorem ok_L_mark {P : Program} {w : World} {K : PySem.W.Frag} {mg : Str → Option Value} {base : Heap} {f : Addr} {fd : FuncData} (T : Txt K mg) (F : FunD K "_law_mark" "_law_mark" (defArgs s_L_mark) (defBody s_L_mark) (defScope s_L_mark) [] [] f fd)   :
    FnOk P w K mg base CX0 1 f fd ["_law_parts"] (spOf (S_L_mark P w K)) := by
  refine F.ok sc_L_mark (len_of (by intro rs k h; first | (obtain ⟨e, _⟩ := h; subst e; exact rfl) | (obtain ⟨_, e, _⟩ := h; subst e; exact rfl) | (obtain ⟨_, _, e, _⟩ := h; subst e; exact rfl) | (obtain ⟨_, _, _, e, _⟩ := h; subst e; exact rfl) | (obtain ⟨_, _, _, _, e, _⟩ := h; subst e; exact rfl) | (obtain ⟨_, _, _, _, _, e, _⟩ := h; subst e; exact rfl) | (obtain ⟨_, _, _, _, _, _, e, _⟩ := h; subst e; exact rfl) | (obtain ⟨_, _, _, _, _, _, _, e, _⟩ := h; subst e; exact rfl) | (obtain ⟨_, _, _, _, _, _, _, _, e, _⟩ := h; subst e; exact rfl) | (obtain ⟨_, _, _, _, _, _, _, _, _, e, _⟩ := h; subst e; exact rfl) | (obtain ⟨_, _, _, _, _, _, _, _, _, _, e, _⟩ := h; subst e; exact rfl) | (obtain ⟨_, _, _, _, _, _, _, _, _, _, _, e, _⟩ := h; subst e; exact rfl) | (obtain ⟨_, _, _, _, _, _, _, _, _, _, _, _, e, _⟩ := h; subst e; exact rfl))) (fun cdv A outer s H vs Q E hr h => ?_)
  
  refine ⟨_, PSs.nox (pss_cons (ps_ret (pe_frz (pe_lst (pa_cons pe_str (pa_cons (pv 0) pa_nil))))) pss_nil), ?_⟩
  refine read_of P w K h rfl fun rs k D hs hD hN => ?_
  obtain ⟨r, rfl, hk⟩ := hs
  (refine ws_retS (by assumption) ?_; (refine we_frzL ?_; refine wl_lst ?_); refine wa_cons ?_; refine we_c ?_; refine wa_cons ?_; refine we_var rfl ?_; refine wa_nil ?_; refine ⟨Nat.le_of_ble_eq_true rfl, ?_⟩)
  exact hk
def S_L_times (P : Program) (w : World) (K : PySem.W.Frag) : Spc := fun rs k => ∃ (A B : PT) (n : Nat), rs = [rDI P w K A, rDI P w K B] ∧ Tb A ∧ Tb B ∧ FitM A B ∧ BdP n A ∧ BdP n B ∧ 0 < n ∧ n ≤ 450000 ∧ k (rDI P w K (nz (mulP A B)))
theorem ok_L_times {P : Program} {w : World} {K : PySem.W.Frag} {mg : Str → Option Value} {base : Heap} {f : Addr} {fd : FuncData} (T : Txt K mg) (F : FunD K "_law_times" "_law_times" (defArgs s_L_times) (defBody s_L_times) (defScope s_L_times) [] [] f fd)   :
    FnOk P w K mg base CX0 1 f fd ["_law_one", "_law_other"] (spOf (S_L_times P w K)) := by
  refine F.ok sc_L_times (len_of (by intro rs k h; first | (obtain ⟨e, _⟩ := h; subst e; exact rfl) | (obtain ⟨_, e, _⟩ := h; subst e; exact rfl) | (obtain ⟨_, _, e, _⟩ := h; subst e; exact rfl) | (obtain ⟨_, _, _, e, _⟩ := h; subst e; exact rfl) | (obtain ⟨_, _, _, _, e, _⟩ := h; subst e; exact rfl) | (obtain ⟨_, _, _, _, _, e, _⟩ := h; subst e; exact rfl) | (obtain ⟨_, _, _, _, _, _, e, _⟩ := h; subst e; exact rfl) | (obtain ⟨_, _, _, _, _, _, _, e, _⟩ := h; subst e; exact rfl) | (obtain ⟨_, _, _, _, _, _, _, _, e, _⟩ := h; subst e; exact rfl) | (obtain ⟨_, _, _, _, _, _, _, _, _, e, _⟩ := h; subst e; exact rfl) | (obtain ⟨_, _, _, _, _, _, _, _, _, _, e, _⟩ := h; subst e; exact rfl) | (obtain ⟨_, _, _, _, _, _, _, _, _, _, _, e, _⟩ := h; subst e; exact rfl) | (obtain ⟨_, _, _, _, _, _, _, _, _, _, _, _, e, _⟩ := h; subst e; exact rfl))) (fun cdv A outer s H vs Q E hr h => ?_)
  
  refine ⟨_, PSs.nox (pss_cons (ps_set (i := 2) sc_L_times.nd rfl (by first | exact Or.inl rfl | exact Or.inr rfl) (q_new (P := P) (w := w) rfl rfl)) (pss_cons (ps_for PassesOwn.never rfl (q_keys (P := P) (w := w) rfl rfl (pv 0)) (pg_name (i := 3) sc_L_times.nd rfl (by first | exact Or.inl rfl | exact Or.inr rfl)) (pss_cons (ps_for PassesOwn.never rfl (q_keys (P := P) (w := w) rfl rfl (pv 1)) (pg_name (i := 4) sc_L_times.nd rfl (by first | exact Or.inl rfl | exact Or.inr rfl)) (pss_cons (ps_set (i := 5) sc_L_times.nd rfl (by first | exact Or.inl rfl | exact Or.inr rfl) (pe_tup (pa_cons (pe_op op_add (pe_ix (k_ixT (K := K) rfl) (pv 3) pe_int (fun _ _ => rfl)) (pe_ix (k_ixT (K := K) rfl) (pv 4) pe_int (fun _ _ => rfl))) (pa_cons (pe_op op_add (pe_ix (k_ixT (K := K) rfl) (pv 3) pe_int (fun _ _ => rfl)) (pe_ix (k_ixT (K := K) rfl) (pv 4) pe_int (fun _ _ => rfl))) (pa_cons (pe_op op_add (pe_ix (k_ixT (K := K) rfl) (pv 3) pe_int (fun _ _ => rfl)) (pe_ix (k_ixT (K := K) rfl) (pv 4) pe_int (fun _ _ => rfl))) (pa_cons (pe_op op_add (pe_ix (k_ixT (K := K) rfl) (pv 3) pe_int (fun _ _ => rfl)) (pe_ix (k_ixT (K := K) rfl) (pv 4) pe_int (fun _ _ => rfl))) pa_nil)))))) (pss_cons (q_put (P := P) (w := w) (K := K) rfl rfl rfl (hu_of hr) (pv 2) (pv 5) (pe_op op_add (q_get2 (P := P) (w := w) (K := K) rfl rfl rfl (hu_of hr) (pv 2) (pv 5) pe_int ⟨rfl, rfl, rfl, rfl⟩) (pe_op op_mulW (q_get (P := P) (w := w) (K := K) rfl rfl rfl (hu_of hr) (pv 0) (pv 3) (fun _ _ => rfl)) (q_get (P := P) (w := w) (K := K) rfl rfl rfl (hu_of hr) (pv 1) (pv 4) (fun _ _ => rfl)))) rfl) pss_nil))) pss_nil)) (pss_frz 2 (pss_cons (ps_ret (pe_frz (pe_callTy (k_xpairs (P := P) (w := w) (K := K) rfl rfl rfl rfl hr.units) rfl T.b_dict boot_dict (pa_cons (pe_frz (pe_lc (own := [("_law_powers", 5)]) (g := gName 5) rfl sc_L_times.nd (q_keys (P := P) (w := w) rfl rfl (pv 2)) (blkOk_by (own := [("_law_powers", 5)]) (N := ["_law_one", "_law_other", "_law_found", "_law_here", "_law_there", "_law_powers"]) (sc := defScope s_L_times) (by decide +kernel)) (fun _ _ _ _ _ => (pg_name (i := 5) sc_L_times.nd rfl (by first | exact Or.inl rfl | exact Or.inr rfl))) (fun _ _ _ _ _ => (pts_one (pt_cmpR op_ne (q_get (P := P) (w := w) (K := K) rfl rfl rfl (hu_of hr) (pv 2) (pv 5) (fun _ _ => rfl)) pe_int (nomark _)))) (fun _ _ _ _ _ => (pe_tup (pa_cons (pv 5) (pa_cons (q_get (P := P) (w := w) (K := K) rfl rfl rfl (hu_of hr) (pv 2) (pv 5) (fun _ _ => rfl)) pa_nil)))))) pa_nil)))) pss_nil)))), ?_⟩
  refine read_of P w K h rfl fun rs k D hs hD hN => ?_
  obtain ⟨A', B', n, rfl, hA, hB, hz, hb1, hb2, hn0, hn, hk⟩ := hs
  (refine ws_asgX ?_; refine wx_new ?_)
  refine ws_forF A' (g := fun t => rKey K t.1) ([] : PT) (fun m a => mulRow a B' m) (fun m => [.im (rDI P w K A'), .im (rDI P w K B'), .mx (mI m), .no, .no, .no]) ?_
  (refine wi_xkeys ?_; refine we_var rfl ?_; refine ⟨_, rfl, ?_⟩)
  refine ⟨by rw [List.length_map], fun i hi => by rw [List.map_map]; exact keyD hi, by (repeat' (first | exact Weak.nil | apply Weak.eq | apply Weak.no)), fun i hi G st => ?_, ?_⟩
  · generalize hm : (A'.take i).foldl (fun m a => mulRow a B' m) [] = m
    have hI : MulI A' B' m := by rw [← hm]; exact mulI_all (A'.take i) fun a ha => List.mem_of_mem_take ha
    have ha : A'[i] ∈ A' := List.getElem_mem hi
    refine ⟨_, _, wg_name, ?_⟩
    refine ws_forF B' (g := fun t => rKey K t.1) m (fun m b => putA m (add4 A'[i].1 b.1) (A'[i].2 * b.2)) (fun m => [.im (rDI P w K A'), .im (rDI P w K B'), .mx (mI m), .im (rKey K A'[i].1), .no, .no]) ?_
    (refine wi_xkeys ?_; refine we_var rfl ?_; refine ⟨_, rfl, ?_⟩)
    refine ⟨by rw [List.length_map], fun i hi => by rw [List.map_map]; exact keyD hi, by (repeat' (first | exact Weak.nil | apply Weak.eq | apply Weak.no)), fun j hj G' st' => ?_, ?_⟩
    · generalize hm' : (B'.take j).foldl (fun m b => putA m (add4 A'[i].1 b.1) (A'[i].2 * b.2)) m = m'
      have hI' : MulI A' B' m' := by rw [← hm']; exact mulI_row hI ha (B'.take j) fun b hb => List.mem_of_mem_take hb
      have hb : B'[j] ∈ B' := List.getElem_mem hj
      have hl := hz m' hI'.1 hI'.2
      have la := hA.n4 _ ha
      have lb := hB.n4 _ hb
      refine ⟨_, _, wg_name, ?_⟩
      ((first | refine ws_asg ?_ | refine ws_asgG ?_); refine we_tup ?_; refine wa_cons ?_; refine we_op ?_; refine we_op ?_; refine we_var rfl ?_; refine we_c ?_)
      refine ot_ixT (getD_key (i := 0) (by omega)) ?_
      (refine we_op ?_; refine we_var rfl ?_; refine we_c ?_)
      refine ot_ixT (getD_key (i := 0) (by omega)) ?_
      (refine ot_I0 ?_; refine wa_cons ?_; refine we_op ?_; refine we_op ?_; refine we_var rfl ?_; refine we_c ?_)
      refine ot_ixT (getD_key (i := 1) (by omega)) ?_
      (refine we_op ?_; refine we_var rfl ?_; refine we_c ?_)
      refine ot_ixT (getD_key (i := 1) (by omega)) ?_
      (refine ot_I0 ?_; refine wa_cons ?_; refine we_op ?_; refine we_op ?_; refine we_var rfl ?_; refine we_c ?_)
      refine ot_ixT (getD_key (i := 2) (by omega)) ?_
      (refine we_op ?_; refine we_var rfl ?_; refine we_c ?_)
      refine ot_ixT (getD_key (i := 2) (by omega)) ?_
      (refine ot_I0 ?_; refine wa_cons ?_; refine we_op ?_; refine we_op ?_; refine we_var rfl ?_; refine we_c ?_)
      refine ot_ixT (getD_key (i := 3) (by omega)) ?_
      (refine we_op ?_; refine we_var rfl ?_; refine we_c ?_)
      refine ot_ixT (getD_key (i := 3) (by omega)) ?_
      (refine ot_I0 ?_; refine wa_nil ?_; refine ⟨Nat.le_of_ble_eq_true rfl, ?_⟩; refine ws_xput rfl ?_; refine we_op ?_; refine we_xget2 ?_; (first | refine wq_var rfl ?_ | refine wq_e ?_); refine we_var rfl ?_)
      refine ⟨add4 A'[i].1 B'[j].1, rfl, ?_⟩
      (refine we_c ?_; refine we_op ?_; refine we_xget ?_; (first | refine wq_var rfl ?_ | refine wq_e ?_); refine we_var rfl ?_; refine ⟨_, rfl, ?_⟩; refine we_var rfl ?_)
      refine ⟨A'[i].1, _, rfl, get_mem hA.nd ha, ?_⟩
      (refine we_xget ?_; (first | refine wq_var rfl ?_ | refine wq_e ?_); refine we_var rfl ?_; refine ⟨_, rfl, ?_⟩; refine we_var rfl ?_)
      refine ⟨B'[j].1, _, rfl, get_mem hB.nd hb, ?_⟩
      (refine ot_I ?_ ?_)
      · exact wide_mul (hb1 _ ha) (hb2 _ hb) hn0 hn0 (by omega)
      rw [gets]
      (refine ot_I0 ?_; refine we_var rfl ?_)
      refine ⟨add4 A'[i].1 B'[j].1, rfl, by rw [List.length_map]; exact hl, ?_⟩
      rw [putI]
      exact ws_nextW rfl (by (repeat' (first | exact Weak.nil | apply Weak.eq | apply Weak.no)))
    · exact ws_nextW rfl (by (repeat' (first | exact Weak.nil | apply Weak.eq | apply Weak.no)))
  · have tb : Tb (mulP A' B') := (mulP_tb hA.n4 hB.n4).1
    have hl : (mulP A' B').length ≤ sizeLine := by
      have q := mulI_all (A := A') (B := B') A' fun _ h => h
      exact Nat.le_of_lt (hz _ q.1 q.2)
    show WpS _ _ [_, _, .mx (mI (mulP A' B')), _, _, _] _
    generalize mulP A' B' = m at tb hl hk
    ((first | refine ws_frzX rfl ?_ | refine ws_frzL rfl ?_); refine ws_retS (by assumption) ?_; (first | (refine we_frzX ?_; refine wx_xpairs ?_) | (refine we_frzL ?_; first | refine wl_xsorted ?_ | refine wl_xitems ?_ | refine wl_listT ?_)); refine we_frzL ?_)
    refine wl_lcF (m.map (·.1)) (g := rKey K) (f := canonF m) (h := fun t => rTup K [rKey K t.1, rInt t.2]) ?_
    (refine wi_xkeys ?_; refine we_var rfl ?_; refine ⟨_, rfl, ?_⟩)
    refine ⟨by rw [List.length_map, List.length_map], fun i hi => ?_, by rw [List.length_map]; exact hl, fun x hx G st => ?_, ?_⟩
    · show rKey K ((((mI m).map (·.1))).getD i []) = _
      rw [mI_keys]
      rw [List.getD_eq_getElem?_getD, List.getElem?_eq_getElem hi]
      rfl
    · refine ⟨_, _, ?_, wg_name, ?_⟩
      · intro j hj; exact hj
      · (refine wt_test ?_; refine we_op ?_; refine we_xget ?_; (first | refine wq_var rfl ?_ | refine wq_e ?_); refine we_var rfl ?_; refine ⟨_, rfl, ?_⟩; refine we_var rfl ?_)
        refine ⟨x, _, rfl, key_get hx, ?_⟩
        (refine we_c ?_; refine ot_ne rfl ?_; refine ⟨_, rfl, ?_⟩)
        rw [dec_int]
        refine ⟨fun hb => ?_, fun hb => ?_⟩
        · have hc : cf m x ≠ 0 := by simpa using hb
          refine ⟨(x, cf m x), by unfold canonF; rw [if_neg hc], ?_⟩
          (refine we_tup ?_; refine wa_cons ?_; refine we_var rfl ?_; refine wa_cons ?_; refine we_xget ?_; (first | refine wq_var rfl ?_ | refine wq_e ?_); refine we_var rfl ?_; refine ⟨_, rfl, ?_⟩; refine we_var rfl ?_)
          refine ⟨x, _, rfl, key_get hx, ?_⟩
          (refine wa_nil ?_; refine ⟨Nat.le_of_ble_eq_true rfl, ?_⟩)
          rfl
        · have hc : cf m x = 0 := by simpa using hb
          unfold canonF
          rw [if_pos hc]
    · skip
      refine ⟨mI (nz m), ?_, ?_⟩
      · show _ = rLst ((mI (nz m)).map (rEnt K))
        rw [List.map_map]
        rfl
      · rw [mI_foldM, foldM_tb (nz_tb tb)]
        exact hk
/-- what a product of the law is asked -/
theorem ltimes_of {P : Program} {w : World} {K : PySem.W.Frag} {A B : PT} {b c : B4} {n m : Nat} {k : Rel → Prop} (hA : LB b n A) (hB : LB c m B) (hv : (b.add c).vol < 16777216) (hn : n < 2 ^ 450000) (hm : m < 2 ^ 450000)
    (hk : k (rDI P w K (nz (mulP A B)))) : S_L_times P w K [rDI P w K A, rDI P w K B] k :=
  ⟨A, B, 450000, rfl, hA.tb, hB.tb, fit_of hA.bx hB.bx hv, bdP_of hA.l hn, bdP_of hB.l hm, by decide, Nat.le_refl _, hk⟩
def lpow (A : PT) : Nat → PT
  | 0 => numP 1
  | n + 1 => nz (mulP (lpow A n) A)
theorem lpow_ok {b : B4} {L : Nat} {A : PT} (h : LB b L A) : ∀ n, LB (B4.mul n b) (L ^ n) (lpow A n) ∧ pol (lpow A n) = pol A ^ n
  | 0 => ⟨PB.one.lb.mono ⟨Nat.zero_le _, Nat.zero_le _, Nat.zero_le _, Nat.zero_le _⟩ (Nat.le_refl _), rfl⟩
  | n + 1 => by
    obtain ⟨h1, h2⟩ := lpow_ok h n
    obtain ⟨h3, h4⟩ := h1.mul h
    refine ⟨h3.mono (le_at fun j hj => by rw [at_add, at_mul, at_mul, Nat.succ_mul]; exact Nat.le_refl _) (by rw [Nat.pow_succ]; exact Nat.le_refl _), ?_⟩
    show pol (nz _) = _
    rw [h4, h2]
    exact (Lean.Grind.Semiring.pow_succ _ _).symm
def S_L_power (P : Program) (w : World) (K : PySem.W.Frag) : Spc := fun rs k => ∃ (A : PT) (n : Nat) (b : B4) (L : Nat), rs = [rDI P w K A, rInt (n : Int)] ∧ LB b L A ∧ 0 < L ∧ (B4.mul n b).vol < 16777216 ∧ L ^ n < 2 ^ 450000 ∧ n < 1000 ∧ k (rDI P w K (lpow A n))
def S_L_is_marked (P : Program) (w : World) (K : PySem.W.Frag) : Spc := fun rs k => ∃ m : PT, rs = [rLst [rStr "P", rDI P w K m]] ∧ k (rBl true)
theorem ok_L_is_marked {P : Program} {w : World} {K : PySem.W.Frag} {mg : Str → Option Value} {base : Heap} {f : Addr} {fd : FuncData} (T : Txt K mg) (F : FunD K "_law_is_marked" "_law_is_marked" (defArgs s_L_is_marked) (defBody s_L_is_marked) (defScope s_L_is_marked) [] [] f fd)   :
    FnOk P w K mg base CX0 1 f fd ["_law_thing"] (spOf (S_L_is_marked P w K)) := by
  refine F.ok sc_L_is_marked (len_of (by intro rs k h; first | (obtain ⟨e, _⟩ := h; subst e; exact rfl) | (obtain ⟨_, e, _⟩ := h; subst e; exact rfl) | (obtain ⟨_, _, e, _⟩ := h; subst e; exact rfl) | (obtain ⟨_, _, _, e, _⟩ := h; subst e; exact rfl) | (obtain ⟨_, _, _, _, e, _⟩ := h; subst e; exact rfl) | (obtain ⟨_, _, _, _, _, e, _⟩ := h; subst e; exact rfl) | (obtain ⟨_, _, _, _, _, _, e, _⟩ := h; subst e; exact rfl) | (obtain ⟨_, _, _, _, _, _, _, e, _⟩ := h; subst e; exact rfl) | (obtain ⟨_, _, _, _, _, _, _, _, e, _⟩ := h; subst e; exact rfl) | (obtain ⟨_, _, _, _, _, _, _, _, _, e, _⟩ := h; subst e; exact rfl) | (obtain ⟨_, _, _, _, _, _, _, _, _, _, e, _⟩ := h; subst e; exact rfl) | (obtain ⟨_, _, _, _, _, _, _, _, _, _, _, e, _⟩ := h; subst e; exact rfl) | (obtain ⟨_, _, _, _, _, _, _, _, _, _, _, _, e, _⟩ := h; subst e; exact rfl))) (fun cdv A outer s H vs Q E hr h => ?_)
  
  refine ⟨_, PSs.nox (pss_cons (ps_ret (pe_and (pe_callB (k_isi (P := P) (w := w) (K := K) rfl rfl rfl) rfl T.b_isinstance boot_isinstance (pa_cons (pv 0) (pa_cons (pe_bltn (v := .ty "list") rfl T.b_list boot_list rfl) pa_nil))) (pe_and (pe_cmpR op_eq (pe_callB (k_len (K := K) rfl) rfl T.b_len boot_len (pa_cons (pv 0) pa_nil)) pe_int (nomark _)) (pe_and (pe_cmpR op_eq (pe_ix (k_ixL (K := K) rfl) (pv 0) pe_int (fun _ _ => rfl)) pe_str (nomark _)) (pe_one (pe_callB (k_isi (P := P) (w := w) (K := K) rfl rfl rfl) rfl T.b_isinstance boot_isinstance (pa_cons (pe_ix (k_ixL (K := K) rfl) (pv 0) pe_int (fun _ _ => rfl)) (pa_cons (pe_bltn (v := .ty "dict") rfl T.b_dict boot_dict rfl) pa_nil)))))))) pss_nil), ?_⟩
  refine read_of P w K h rfl fun rs k D hs hD hN => ?_
  obtain ⟨m, rfl, hk⟩ := hs
  (refine ws_retS (by assumption) ?_; refine we_andV ?_; (first | refine we_cb ?_ | refine we_xlen ?_); refine wa_cons ?_; refine we_var rfl ?_; refine wa_cons ?_; refine we_c ?_; refine wa_nil ?_)
  refine ct_isi ty_lst (.ty _) (k_ll _) ?_
  (refine ⟨_, rfl, ?_⟩; refine ⟨fun _ => ?_, fun z => Bool.noConfusion (show true = false from by first | exact z | exact z.symm)⟩; refine we_andV ?_; refine we_op ?_; (first | refine we_cb ?_ | refine we_xlen ?_); refine wa_cons ?_; refine we_var rfl ?_; refine wa_nil ?_; (first | refine ct_lenT ?_ | refine ct_lenL ?_); refine we_c ?_; refine ot_eq rfl ?_; refine ⟨_, rfl, ?_⟩)
  refine ⟨fun _ => ?_, fun z => Bool.noConfusion (show true = false from z)⟩
  (refine we_andV ?_; refine we_op ?_; refine we_op ?_; refine we_var rfl ?_; refine we_c ?_)
  refine ot_ixL (r := rStr "P") rfl ?_
  (refine we_c ?_; refine ot_eq rfl ?_; refine ⟨_, rfl, ?_⟩)
  refine ⟨fun _ => ?_, fun z => Bool.noConfusion (show true = false from z)⟩
  ((first | refine we_cb ?_ | refine we_xlen ?_); refine wa_cons ?_; refine we_op ?_; refine we_var rfl ?_; refine we_c ?_)
  refine ot_ixL (r := rDI P w K m) rfl ?_
  (refine wa_cons ?_; refine we_c ?_; refine wa_nil ?_)
  refine ct_isi ty_dct (.ty _) (k_dd _) ?_
  exact hk
def S_L_degree (P : Program) (w : World) (K : PySem.W.Frag) : Spc := fun rs k => ∃ (A : PT) (b : B4) (i : Nat), rs = [rDI P w K A, rInt (i : Int)] ∧ Bx b A ∧ i < 4 ∧ A.length ≤ 16777000 ∧ k (rInt (degP A i))
theorem ok_L_degree {P : Program} {w : World} {K : PySem.W.Frag} {mg : Str → Option Value} {base : Heap} {f : Addr} {fd : FuncData} (T : Txt K mg) (F : FunD K "_law_degree" "_law_degree" (defArgs s_L_degree) (defBody s_L_degree) (defScope s_L_degree) [] [] f fd)   :
    FnOk P w K mg base CX0 1 f fd ["_law_poly", "_law_k"] (spOf (S_L_degree P w K)) := by
  refine F.ok sc_L_degree (len_of (by intro rs k h; first | (obtain ⟨e, _⟩ := h; subst e; exact rfl) | (obtain ⟨_, e, _⟩ := h; subst e; exact rfl) | (obtain ⟨_, _, e, _⟩ := h; subst e; exact rfl) | (obtain ⟨_, _, _, e, _⟩ := h; subst e; exact rfl) | (obtain ⟨_, _, _, _, e, _⟩ := h; subst e; exact rfl) | (obtain ⟨_, _, _, _, _, e, _⟩ := h; subst e; exact rfl) | (obtain ⟨_, _, _, _, _, _, e, _⟩ := h; subst e; exact rfl) | (obtain ⟨_, _, _, _, _, _, _, e, _⟩ := h; subst e; exact rfl) | (obtain ⟨_, _, _, _, _, _, _, _, e, _⟩ := h; subst e; exact rfl) | (obtain ⟨_, _, _, _, _, _, _, _, _, e, _⟩ := h; subst e; exact rfl) | (obtain ⟨_, _, _, _, _, _, _, _, _, _, e, _⟩ := h; subst e; exact rfl) | (obtain ⟨_, _, _, _, _, _, _, _, _, _, _, e, _⟩ := h; subst e; exact rfl) | (obtain ⟨_, _, _, _, _, _, _, _, _, _, _, _, e, _⟩ := h; subst e; exact rfl))) (fun cdv A outer s H vs Q E hr h => ?_)
  
  refine ⟨_, PSs.nox (pss_cons (ps_ret (pe_callB (k_max (K := K) rfl rfl) rfl T.b_max boot_max (pa_cons (pe_frz (pe_op op_cat (pe_lst (pa_cons pe_int pa_nil)) (pe_lc (own := [("_law_powers", 2)]) (g := gName 2) (tt := tYes) rfl sc_L_degree.nd (q_keys (P := P) (w := w) rfl rfl (pv 0)) (blkOk_by (own := [("_law_powers", 2)]) (N := ["_law_poly", "_law_k", "_law_powers"]) (sc := defScope s_L_degree) (by decide +kernel)) (fun _ _ _ _ _ => (pg_name (i := 2) sc_L_degree.nd rfl (by first | exact Or.inl rfl | exact Or.inr rfl))) (fun _ _ _ _ _ => pts_nil) (fun _ _ _ _ _ => (pe_ix (k_ixT (K := K) rfl) (pv 2) (pv 1) (fun _ _ => rfl)))))) pa_nil))) pss_nil), ?_⟩
  refine read_of P w K h rfl fun rs k D hs hD hN => ?_
  obtain ⟨A', b, i, rfl, hA, hi, hz, hk⟩ := hs
  (refine ws_retS (by assumption) ?_; (first | refine we_cb ?_ | refine we_xlen ?_); refine wa_cons ?_; (refine we_frzL ?_; refine wl_cat ?_); refine wl_lst ?_; refine wa_cons ?_; refine we_c ?_; refine wa_nil ?_; refine ⟨Nat.le_of_ble_eq_true rfl, ?_⟩)
  refine wl_lcM A' (g := fun t => rKey K t.1) (h := fun t => rInt (t.1.getD i 0)) ?_
  (refine wi_xkeys ?_; refine we_var rfl ?_; refine ⟨_, rfl, ?_⟩)
  refine ⟨by rw [List.length_map], fun j hj => by rw [List.map_map]; exact keyD hj, by unfold sizeLine; omega, fun t ht G st => ?_, ?_⟩
  · refine ⟨_, _, ?_, wg_name, ?_⟩
    · intro j hj; exact hj
    · have := (hA t ht).len
      (refine we_op ?_; refine we_var rfl ?_; refine we_var rfl ?_)
      refine ot_ixT (getD_key (i := i) (by omega)) ?_
      rfl
  · have hz' : ([rC (V.int 0)] : List Rel).length + (A'.map fun t => rInt (t.1.getD i 0)).length ≤ sizeLine := by
      rw [List.length_map]; unfold sizeLine; show 1 + _ ≤ _; omega
    refine ⟨hz', ?_⟩
    (refine wa_nil ?_)
    rw [show ([rC (V.int 0)] ++ A'.map fun t => rInt (t.1.getD i 0)) = ((0 : Int) :: A'.map fun t => t.1.getD i 0).map rInt by rw [List.map_cons, List.map_map]; rfl]
    refine ct_max (Nat.succ_pos _) fun m hm hle => ?_
    rw [degL_max (fun y hy => ?_) hm hle]
    · exact hk
    · obtain ⟨t, ht, rfl⟩ := List.mem_map.mp hy
      exact (hA t ht).nn i
def S_L_lead (P : Program) (w : World) (K : PySem.W.Frag) : Spc := fun rs k => ∃ (A : PT) (b : B4) (n i : Nat), rs = [rDI P w K A, rInt (i : Int)] ∧ LB b n A ∧ i < 4 ∧ A.length ≤ 16777000 ∧ k (rDI P w K (grp A i (degP A i)))
theorem ok_L_lead {P : Program} {w : World} {K : PySem.W.Frag} {mg : Str → Option Value} {base : Heap} {f : Addr} {fd fd_L_degree : FuncData} (T : Txt K mg) (F : FunD K "_law_lead" "_law_lead" (defArgs s_L_lead) (defBody s_L_lead) (defScope s_L_lead) [] [] f fd) (c_L_degree : Callee P w K mg base (He.ga K "_law_degree") fd_L_degree ["_law_poly", "_law_k"] 1 (spOf (S_L_degree P w K)))  :
    FnOk P w K mg base CX0 2 f fd ["_law_poly", "_law_k"] (spOf (S_L_lead P w K)) := by
  refine F.ok sc_L_lead (len_of (by intro rs k h; first | (obtain ⟨e, _⟩ := h; subst e; exact rfl) | (obtain ⟨_, e, _⟩ := h; subst e; exact rfl) | (obtain ⟨_, _, e, _⟩ := h; subst e; exact rfl) | (obtain ⟨_, _, _, e, _⟩ := h; subst e; exact rfl) | (obtain ⟨_, _, _, _, e, _⟩ := h; subst e; exact rfl) | (obtain ⟨_, _, _, _, _, e, _⟩ := h; subst e; exact rfl) | (obtain ⟨_, _, _, _, _, _, e, _⟩ := h; subst e; exact rfl) | (obtain ⟨_, _, _, _, _, _, _, e, _⟩ := h; subst e; exact rfl) | (obtain ⟨_, _, _, _, _, _, _, _, e, _⟩ := h; subst e; exact rfl) | (obtain ⟨_, _, _, _, _, _, _, _, _, e, _⟩ := h; subst e; exact rfl) | (obtain ⟨_, _, _, _, _, _, _, _, _, _, e, _⟩ := h; subst e; exact rfl) | (obtain ⟨_, _, _, _, _, _, _, _, _, _, _, e, _⟩ := h; subst e; exact rfl) | (obtain ⟨_, _, _, _, _, _, _, _, _, _, _, _, e, _⟩ := h; subst e; exact rfl))) (fun cdv A outer s H vs Q E hr h => ?_)
  
  refine ⟨_, PSs.nox (pss_cons (ps_set (i := 2) sc_L_lead.nd rfl (by first | exact Or.inl rfl | exact Or.inr rfl) (pe_call (c_L_degree.F.mono (by decide)) hr rfl T.g_L_degree c_L_degree.kp c_L_degree.b .nil pass0 (pa_cons (pv 0) (pa_cons (pv 1) pa_nil)))) (pss_cons (ps_ret (pe_frz (pe_callTy (k_xpairs (P := P) (w := w) (K := K) rfl rfl rfl rfl hr.units) rfl T.b_dict boot_dict (pa_cons (pe_frz (pe_lc (own := [("_law_powers", 3)]) (g := gName 3) rfl sc_L_lead.nd (q_keys (P := P) (w := w) rfl rfl (pv 0)) (blkOk_by (own := [("_law_powers", 3)]) (N := ["_law_poly", "_law_k", "_law_many", "_law_powers"]) (sc := defScope s_L_lead) (by decide +kernel)) (fun _ _ _ _ _ => (pg_name (i := 3) sc_L_lead.nd rfl (by first | exact Or.inl rfl | exact Or.inr rfl))) (fun _ _ _ _ _ => (pts_one (pt_cmpR op_eq (pe_ix (k_ixT (K := K) rfl) (pv 3) (pv 1) (fun _ _ => rfl)) (pv 2) (nomark _)))) (fun _ _ _ _ _ => (pe_tup (pa_cons (pe_op (k_catT (K := K) rfl) (pe_op (k_catT (K := K) rfl) (pe_slice (k_slT (K := K) rfl) (pv 3) po_none (po_some (pv 1))) (pe_tup (pa_cons pe_int pa_nil))) (pe_slice (k_slT (K := K) rfl) (pv 3) (po_some (pe_op op_add (pv 1) pe_int)) po_none)) (pa_cons (q_get (P := P) (w := w) (K := K) rfl rfl rfl (hu_of hr) (pv 0) (pv 3) (fun _ _ => rfl)) pa_nil)))))) pa_nil)))) pss_nil)), ?_⟩
  refine read_of P w K h rfl fun rs k D hs hD hN => ?_
  obtain ⟨A', b, n, i, rfl, hA, hi, hz, hk⟩ := hs
  ((first | refine ws_asg ?_ | refine ws_asgG ?_); refine we_call ?_; refine wa_cons ?_; refine we_var rfl ?_; refine wa_cons ?_; refine we_var rfl ?_; refine wa_nil ?_)
  refine ⟨A', b, i, rfl, hA.bx, hi, hz, ?_⟩
  (refine ws_retS (by assumption) ?_; (first | (refine we_frzX ?_; refine wx_xpairs ?_) | (refine we_frzL ?_; first | refine wl_xsorted ?_ | refine wl_xitems ?_ | refine wl_listT ?_)); refine we_frzL ?_)
  have hc : ∀ t ∈ A', (decide (V.int (t.1.getD i 0) = V.int ((degP A' i : Nat) : Int))) = atE i (degP A' i) t := fun t ht => by
    have := (hA.bx t ht).nn i
    rw [dec_int]
    unfold atE
    rw [Bool.eq_iff_iff, decide_eq_true_iff, beq_iff_eq]
    omega
  have fm : ∀ L : PT, L.filterMap (fun t => if atE i (degP A' i) t = true then some (t.1.set i 0, t.2) else none) = (L.filter (atE i (degP A' i))).map fun t => (t.1.set i 0, t.2) := by
    intro L
    induction L with
    | nil => rfl
    | cons t L ih =>
      rw [List.filterMap_cons, List.filter_cons]
      by_cases c : atE i (degP A' i) t = true
      · rw [if_pos c, if_pos c, List.map_cons, ih]
      · rw [if_neg c, if_neg c, ih]
  refine wl_lcF A' (g := fun t => rKey K t.1) (f := fun t => if atE i (degP A' i) t = true then some (t.1.set i 0, t.2) else none) (h := fun t => rTup K [rKey K t.1, rInt t.2]) ?_
  (refine wi_xkeys ?_; refine we_var rfl ?_; refine ⟨_, rfl, ?_⟩)
  refine ⟨by rw [List.length_map], fun j hj => by rw [List.map_map]; exact keyD hj, by unfold sizeLine; omega, fun t ht G st => ?_, ?_⟩
  · refine ⟨_, _, ?_, wg_name, ?_⟩
    · intro j hj; exact hj
    · have h4 := (hA.bx t ht).len
      (refine wt_test ?_; refine we_op ?_; refine we_op ?_; refine we_var rfl ?_; refine we_var rfl ?_)
      refine ot_ixT (getD_key (i := i) (by omega)) ?_
      (refine we_var rfl ?_; refine ot_eq rfl ?_; refine ⟨_, rfl, ?_⟩)
      rw [hc t ht]
      refine ⟨fun z => ?_, fun z => ?_⟩
      · rw [if_pos z]
        refine ⟨_, rfl, ?_⟩
        (refine we_tup ?_; refine wa_cons ?_; refine we_op ?_; refine we_op ?_; refine we_slT ?_; refine we_var rfl ?_; refine ⟨_, rfl, ?_⟩; refine wo_none ?_; refine wo_some ?_; refine we_var rfl ?_; refine ⟨_, rfl, ?_⟩; refine we_tup ?_; refine wa_cons ?_; refine we_c ?_; refine wa_nil ?_; refine ⟨Nat.le_of_ble_eq_true rfl, ?_⟩; refine ot_catT ?_ ?_)
        · exact without_len h4 hi
        (refine we_slT ?_; refine we_var rfl ?_; refine ⟨_, rfl, ?_⟩; refine wo_some ?_; refine we_op ?_; refine we_var rfl ?_; refine we_c ?_; refine ot_I0 ?_; refine ⟨_, rfl, ?_⟩; refine wo_none ?_; refine ot_catT ?_ ?_)
        · exact without_len2 h4 hi
        (refine wa_cons ?_; refine we_xget ?_; (first | refine wq_var rfl ?_ | refine wq_e ?_); refine we_var rfl ?_; refine ⟨_, rfl, ?_⟩; refine we_var rfl ?_)
        refine ⟨t.1, _, rfl, get_mem hA.nd ht, ?_⟩
        (refine wa_nil ?_; refine ⟨Nat.le_of_ble_eq_true rfl, ?_⟩)
        rw [without_eq h4 hi]
      · rw [z]
        rfl
  · skip
    refine ⟨mI (grp A' i (degP A' i)), ?_, ?_⟩
    · have e : ∀ X : PT, (X.map fun t => rTup K [rKey K t.1, rInt t.2]) = (mI X).map (rEnt K) := fun X => by rw [List.map_map]; rfl
      rw [fm]
      exact congrArg rLst (e (grp A' i (degP A' i)))
    · have tb : Tb (grp A' i (degP A' i)) := ⟨grp_nd hA.bx hA.nd hi _, (grp_bx hA.bx hi _).n4⟩
      rw [mI_foldM, foldM_tb tb]
      exact hk
/-- a table as a polynomial is told -/
structure TsB (m : PT) : Prop where
  len : m.length ≤ 300
  b60 : Bx ⟨60, 60, 60, 60⟩ m
  nd : (m.map (·.1)).Nodup
  nz : ∀ e ∈ m, e.2 ≠ 0
theorem lex_lt : ∀ {a b : List Int}, a < b → HT.lexLt a b = true
  | [], [], h => absurd h (List.lt_irrefl _)
  | [], _ :: _, _ => rfl
  | _ :: _, [], h => absurd h (List.not_lt_nil _)
  | x :: xs, y :: ys, h => by
    rw [HT.lexLt_cons]
    rcases List.cons_lt_cons_iff.mp h with h | ⟨e, h⟩
    · rw [if_neg (by omega)]; exact decide_eq_true h
    · rw [if_pos e]; exact lex_lt h
theorem canon_nz {m : PT} (nd : (m.map (·.1)).Nodup) (nz : ∀ e ∈ m, e.2 ≠ 0) : canon m = ((m.map (·.1)).mergeSort keyLe).map fun x => (x, cf m x) := by
  unfold canon
  have : ∀ L : List (List Int), (∀ x ∈ L, x ∈ m.map (·.1)) → L.filterMap (canonF m) = L.map fun x => (x, cf m x) := by
    intro L
    induction L with
    | nil => intro _; rfl
    | cons x L ih =>
      intro hL
      obtain ⟨e, he, e1⟩ := List.mem_map.mp (hL x (List.mem_cons_self ..))
      have hc : cf m x ≠ 0 := by rw [← e1, cf_mem nd (c := e.2) he]; exact nz e he
      rw [List.filterMap_cons_some (b := (x, cf m x)) (by unfold canonF; rw [if_neg hc]), List.map_cons, ih fun y hy => hL y (List.mem_cons_of_mem _ hy)]
  exact this _ fun x hx => List.mem_mergeSort.mp hx
theorem canon_len (m : PT) : (canon m).length ≤ m.length := by
  unfold canon
  refine Nat.le_trans (List.length_filterMap_le ..) ?_
  rw [List.length_mergeSort, List.length_map]
  exact Nat.le_refl _
def S_L_packed (P : Program) (w : World) (K : PySem.W.Frag) : Spc := fun rs k => ∃ m : PT, rs = [rLst [rStr "P", rDI P w K m]] ∧ TsB m ∧ k (rPT K (CP K) (canon m))
theorem ok_L_packed {P : Program} {w : World} {K : PySem.W.Frag} {mg : Str → Option Value} {base : Heap} {f : Addr} {fd fd_L_is_marked fd_Poly_init : FuncData} (T : Txt K mg) (F : FunD K "_law_packed" "_law_packed" (defArgs s_L_packed) (defBody s_L_packed) (defScope s_L_packed) [] [] f fd) (c_L_is_marked : Callee P w K mg base (He.ga K "_law_is_marked") fd_L_is_marked ["_law_thing"] 1 (spOf (S_L_is_marked P w K))) (c_Poly_init : Callee P w K mg base (He.ma K (He.ga K "Poly") "__init__") fd_Poly_init ["self", "terms"] 4 (spMk (He.ga K "Poly") (S_Poly_init P w K)))  :
    FnOk P w K mg base CX0 6 f fd ["_law_thing"] (spOf (S_L_packed P w K)) := by
  refine F.ok sc_L_packed (len_of (by intro rs k h; first | (obtain ⟨e, _⟩ := h; subst e; exact rfl) | (obtain ⟨_, e, _⟩ := h; subst e; exact rfl) | (obtain ⟨_, _, e, _⟩ := h; subst e; exact rfl) | (obtain ⟨_, _, _, e, _⟩ := h; subst e; exact rfl) | (obtain ⟨_, _, _, _, e, _⟩ := h; subst e; exact rfl) | (obtain ⟨_, _, _, _, _, e, _⟩ := h; subst e; exact rfl) | (obtain ⟨_, _, _, _, _, _, e, _⟩ := h; subst e; exact rfl) | (obtain ⟨_, _, _, _, _, _, _, e, _⟩ := h; subst e; exact rfl) | (obtain ⟨_, _, _, _, _, _, _, _, e, _⟩ := h; subst e; exact rfl) | (obtain ⟨_, _, _, _, _, _, _, _, _, e, _⟩ := h; subst e; exact rfl) | (obtain ⟨_, _, _, _, _, _, _, _, _, _, e, _⟩ := h; subst e; exact rfl) | (obtain ⟨_, _, _, _, _, _, _, _, _, _, _, e, _⟩ := h; subst e; exact rfl) | (obtain ⟨_, _, _, _, _, _, _, _, _, _, _, _, e, _⟩ := h; subst e; exact rfl))) (fun cdv A outer s H vs Q E hr h => ?_)
  
  refine ⟨_, PSs.nox (pss_cons (ps_if (pt_val (pe_call (c_L_is_marked.F.mono (by decide)) hr rfl T.g_L_is_marked c_L_is_marked.kp c_L_is_marked.b .nil pass0 (pa_cons (pv 0) pa_nil))) (pss_cons (ps_ret (pe_make (k := 4) T.m_Poly (c_Poly_init.F.mono (by decide)) hr rfl T.c_Poly c_Poly_init.b .nil pass0 (pa_cons (pe_callTy (k_tupleOf (K := K) rfl) rfl T.b_tuple boot_tuple (pa_cons (pe_frz (pe_lc (own := [("_law_powers", 2)]) (g := gName 2) (tt := tYes) rfl sc_L_packed.nd (q_list (K := K) rfl (pe_frz (pe_callB (k_xsorted (P := P) (w := w) (K := K) rfl rfl rfl rfl hr.units) rfl T.b_sorted boot_sorted (pa_cons (pe_ix (k_ixL (K := K) rfl) (pv 0) pe_int (fun _ _ => rfl)) pa_nil)))) (blkOk_by (own := [("_law_powers", 2)]) (N := ["_law_thing", "_law_item", "_law_powers"]) (sc := defScope s_L_packed) (by decide +kernel)) (fun _ _ _ _ _ => (pg_name (i := 2) sc_L_packed.nd rfl (by first | exact Or.inl rfl | exact Or.inr rfl))) (fun _ _ _ _ _ => pts_nil) (fun _ _ _ _ _ => (pe_tup (pa_cons (pv 2) (pa_cons (q_get (P := P) (w := w) (K := K) rfl rfl rfl (hu_of hr) (pe_ix (k_ixL (K := K) rfl) (pv 0) pe_int (fun _ _ => rfl)) (pv 2) (fun _ _ => rfl)) pa_nil)))))) pa_nil)) pa_nil))) pss_nil) pss_nil) (pss_cons ps_no (pss_cons ps_no pss_nil))), ?_⟩
  refine read_of P w K h rfl fun rs k D hs hD hN => ?_
  obtain ⟨m, rfl, hm, hk⟩ := hs
  (refine ws_if ?_; refine wt_B ?_; refine we_call ?_; refine wa_cons ?_; refine we_var rfl ?_; refine wa_nil ?_)
  refine ⟨m, rfl, ?_⟩
  (refine ⟨_, rfl, ?_⟩; refine ⟨fun _ => ?_, fun z => Bool.noConfusion (show true = false from by first | exact z | exact z.symm)⟩; refine ws_retS (by assumption) ?_; refine we_make ?_; refine wa_cons ?_; (first | refine we_cb ?_ | refine we_xlen ?_); refine wa_cons ?_; refine we_frzL ?_)
  have hz : ((m.map (·.1)).mergeSort keyLe).length ≤ sizeLine := by
    rw [List.length_mergeSort, List.length_map]
    have := hm.len
    rw [sizeLine_eq]
    omega
  refine wl_lcM ((m.map (·.1)).mergeSort keyLe) (g := rKey K) (h := fun x => rTup K [rKey K x, rInt (cf m x)]) ?_
  (refine wi_list ?_; (first | (refine we_frzX ?_; refine wx_xpairs ?_) | (refine we_frzL ?_; first | refine wl_xsorted ?_ | refine wl_xitems ?_ | refine wl_listT ?_)); refine wq_e ?_; refine we_op ?_; refine we_var rfl ?_; refine we_c ?_)
  refine ot_ixL (r := rDI P w K m) rfl ?_
  refine ⟨mI m, rfl, fun p hp => ?_, ?_⟩
  · obtain ⟨e, he, rfl⟩ := List.mem_map.mp hp
    intro z
    have := (hm.b60 e he).len
    rw [show e.1 = [] from z] at this
    cases this
  rw [mI_keys]
  (refine ⟨_, rfl, ?_⟩)
  refine ⟨by rw [List.length_map], fun i hi => getD_map hi, hz, fun x hx G st => ?_, ?_⟩
  · refine ⟨_, _, ?_, wg_name, ?_⟩
    · intro j hj; exact hj
    · (refine we_tup ?_; refine wa_cons ?_; refine we_var rfl ?_; refine wa_cons ?_; refine we_xget ?_; refine wq_e ?_; refine we_op ?_; refine we_var rfl ?_; refine we_c ?_)
      refine ot_ixL (r := rDI P w K m) rfl ?_
      refine ⟨mI m, rfl, ?_⟩
      (refine we_var rfl ?_)
      refine ⟨x, _, rfl, key_get (List.mem_mergeSort.mp hx), ?_⟩
      (refine wa_nil ?_; refine ⟨Nat.le_of_ble_eq_true rfl, ?_⟩)
      rfl
  · (refine wa_nil ?_; refine ct_tuple ?_; refine wa_nil ?_)
    refine ⟨_, ⟨canon m, ?_, ?_, rfl⟩, hk⟩
    · rw [canon_nz hm.nd hm.nz]
      show [rTup K _] = [rTup K _]
      rw [List.map_map]
      rfl
    · refine ⟨Nat.le_trans (canon_len m) hm.len, fun t ht => ?_, ?_⟩
      · obtain ⟨q1, q2, q3⟩ := mem_canon.mp (show (t.1, t.2) ∈ canon m from ht)
        obtain ⟨e, he, e1⟩ := List.mem_map.mp q1
        refine ⟨?_, q3⟩
        rw [← e1]
        obtain ⟨x, y, z, u, e2, h1, h2, h3, h4⟩ := hm.b60 e he
        rw [e2]
        refine ⟨rfl, fun v hv => ?_⟩
        simp only [List.mem_cons, List.not_mem_nil, or_false] at hv
        have h1' : x ≤ 60 := h1
        have h2' : y ≤ 60 := h2
        have h3' : z ≤ 60 := h3
        have h4' : u ≤ 60 := h4
        rcases hv with rfl | rfl | rfl | rfl <;> omega
      · exact (can_canon hm.nd).st.imp fun h => lex_lt h
def S_L_unpacked (P : Program) (w : World) (K : PySem.W.Frag) : Spc := fun rs k => ∃ (C : Addr) (A : PT), rs = [rPT K C A] ∧ PolyC K C ∧ Tb A ∧ A.length ≤ 16777000 ∧ k (rLst [rStr "P", rDI P w K A])
theorem ok_L_unpacked {P : Program} {w : World} {K : PySem.W.Frag} {mg : Str → Option Value} {base : Heap} {f : Addr} {fd fd_L_mark : FuncData} (T : Txt K mg) (F : FunD K "_law_unpacked" "_law_unpacked" (defArgs s_L_unpacked) (defBody s_L_unpacked) (defScope s_L_unpacked) [] [] f fd) (c_L_mark : Callee P w K mg base (He.ga K "_law_mark") fd_L_mark ["_law_parts"] 1 (spOf (S_L_mark P w K)))  :
    FnOk P w K mg base CX0 2 f fd ["_law_thing"] (spOf (S_L_unpacked P w K)) := by
  refine F.ok sc_L_unpacked (len_of (by intro rs k h; first | (obtain ⟨e, _⟩ := h; subst e; exact rfl) | (obtain ⟨_, e, _⟩ := h; subst e; exact rfl) | (obtain ⟨_, _, e, _⟩ := h; subst e; exact rfl) | (obtain ⟨_, _, _, e, _⟩ := h; subst e; exact rfl) | (obtain ⟨_, _, _, _, e, _⟩ := h; subst e; exact rfl) | (obtain ⟨_, _, _, _, _, e, _⟩ := h; subst e; exact rfl) | (obtain ⟨_, _, _, _, _, _, e, _⟩ := h; subst e; exact rfl) | (obtain ⟨_, _, _, _, _, _, _, e, _⟩ := h; subst e; exact rfl) | (obtain ⟨_, _, _, _, _, _, _, _, e, _⟩ := h; subst e; exact rfl) | (obtain ⟨_, _, _, _, _, _, _, _, _, e, _⟩ := h; subst e; exact rfl) | (obtain ⟨_, _, _, _, _, _, _, _, _, _, e, _⟩ := h; subst e; exact rfl) | (obtain ⟨_, _, _, _, _, _, _, _, _, _, _, e, _⟩ := h; subst e; exact rfl) | (obtain ⟨_, _, _, _, _, _, _, _, _, _, _, _, e, _⟩ := h; subst e; exact rfl))) (fun cdv A outer s H vs Q E hr h => ?_)
  
  refine ⟨_, PSs.nox (pss_cons (ps_if (pt_val (pe_callB (k_isi (P := P) (w := w) (K := K) rfl rfl rfl) rfl T.b_isinstance boot_isinstance (pa_cons (pv 0) (pa_cons (pe_glob (v := .ref (He.ga K "Poly")) rfl T.c_Poly rfl) pa_nil)))) (pss_cons (ps_ret (pe_call (c_L_mark.F.mono (by decide)) hr rfl T.g_L_mark c_L_mark.kp c_L_mark.b .nil pass0 (pa_cons (pe_frz (pe_callTy (k_xpairs (P := P) (w := w) (K := K) rfl rfl rfl rfl hr.units) rfl T.b_dict boot_dict (pa_cons (pe_frz (pe_callTy (k_listOf (K := K) rfl) rfl T.b_list boot_list (pa_cons (q_fld (K := K) rfl (pv 0) rfl) pa_nil))) pa_nil))) pa_nil))) pss_nil) pss_nil) (pss_cons ps_no (pss_cons ps_no pss_nil))), ?_⟩
  refine read_of P w K h rfl fun rs k D hs hD hN => ?_
  obtain ⟨C, A', rfl, hC, hA, hz, hk⟩ := hs
  (refine ws_if ?_; refine wt_B ?_; (first | refine we_cb ?_ | refine we_xlen ?_); refine wa_cons ?_; refine we_var rfl ?_; refine wa_cons ?_)
  refine we_c ?_
  (refine wa_nil ?_)
  refine ct_isi hC.ty (.own _) hC.ki ?_
  (refine ⟨_, rfl, ?_⟩; refine ⟨fun _ => ?_, fun z => Bool.noConfusion (show true = false from by first | exact z | exact z.symm)⟩; refine ws_retS (by assumption) ?_; refine we_call ?_; refine wa_cons ?_; (first | (refine we_frzX ?_; refine wx_xpairs ?_) | (refine we_frzL ?_; first | refine wl_xsorted ?_ | refine wl_xitems ?_ | refine wl_listT ?_)); (first | (refine we_frzX ?_; refine wx_xpairs ?_) | (refine we_frzL ?_; first | refine wl_xsorted ?_ | refine wl_xitems ?_ | refine wl_listT ?_)); refine we_fld ?_; refine we_var rfl ?_)
  refine ⟨C, _, rTms K A', rfl, hC.cl, hC.na, rfl, _, .inl rfl, mI A', ?_, ?_⟩
  · rw [List.map_map]
    rfl
  (refine wa_nil ?_)
  refine ⟨_, rfl, ?_⟩
  rw [mI_foldM, foldM_tb hA]
  exact hk
def mx4 (k : List Int) : Int := max (max (k.getD 0 0) (k.getD 1 0)) (max (k.getD 2 0) (k.getD 3 0))
theorem mx4_le {k : List Int} (h : k.length = 4) {j : Nat} (hj : j < 4) : k.getD j 0 ≤ mx4 k := by
  unfold mx4
  match j, hj with
  | 0, _ => omega
  | 1, _ => omega
  | 2, _ => omega
  | 3, _ => omega
theorem mx4_eq {k : List Int} (h : k.length = 4) {m : Int} (hm : m ∈ k) (hle : ∀ y, y ∈ k → y ≤ m) : m = mx4 k := by
  match k, h with
  | [a, b, c, d], _ =>
    have h1 := hle a (by simp)
    have h2 := hle b (by simp)
    have h3 := hle c (by simp)
    have h4 := hle d (by simp)
    show m = max (max a b) (max c d)
    simp only [List.mem_cons, List.not_mem_nil, or_false] at hm
    omega
def S_L_is_let (P : Program) (w : World) (K : PySem.W.Frag) : Spc := fun rs k => ∃ (A : PT), rs = [rDI P w K A] ∧ N4 A ∧ A.length ≤ 16777000 ∧ ∀ b : Bool, (b = true → ∀ e ∈ A, ∀ j, j < 4 → e.1.getD j 0 ≤ 60) → k (rBl b)
end Lw
set_option Elab.async false
set_option linter.all false
set_option maxRecDepth 100000
set_option maxHeartbeats 1000000
namespace Lw
open PySem PySem.Spec PyProof.Rows L2 BX
def bq (n : Nat) : B4 := ⟨n, n, n, n⟩
theorem lb_one {b : B4} {p : List Int} {c : Int} (h : In b p) (hc : c ≠ 0) : LB b c.natAbs [(p, c)] := ⟨List.pairwise_singleton _ _, fun e he => by rw [List.mem_singleton.mp he]; exact hc, fun e he => by rw [List.mem_singleton.mp he]; exact h, by rw [l1_cons]; exact Nat.le_refl _⟩
theorem in_box {n : Nat} {ys : List Int} (hp : Paired (fun (_ : Nat) (y : Int) => 0 ≤ y ∧ y ≤ (n : Int)) (List.range 4) ys) : In (bq n) ys := by
  rw [show List.range 4 = [0, 1, 2, 3] from rfl] at hp
  cases hp with
  | cons h0 t =>
    cases t with
    | cons h1 t =>
      cases t with
      | cons h2 t =>
        cases t with
        | cons h3 t =>
          cases t
          rename_i a b c d
          refine ⟨a.toNat, b.toNat, c.toNat, d.toNat, by rw [Int.toNat_of_nonneg h0.1, Int.toNat_of_nonneg h1.1, Int.toNat_of_nonneg h2.1, Int.toNat_of_nonneg h3.1], ?_, ?_, ?_, ?_⟩
          · show a.toNat ≤ n; omega
          · show b.toNat ≤ n; omega
          · show c.toNat ≤ n; omega
          · show d.toNat ≤ n; omega
def S_L_small (P : Program) (w : World) (K : PySem.W.Frag) : Spc := fun rs k => ∃ most : Nat, rs = [rHand P w, rInt 4, rInt (most : Int)] ∧ most ≤ 2 ∧ ∀ m, LB (bq most) 15 m → k (rDI P w K m)
theorem we_allP {B : Bd} {Γ : BX.Ctx} {te : TE} {k : Rel → Prop} {α : Type} (p : α → Prop) (f : α → Rel) (h : ∀ k' : Rel → Prop, (∀ x, p x → k' (f x)) → WpE B Γ te k') (q : ∀ x, p x → k (f x)) : WpE B Γ te k := h k q
theorem pb_num (n : Int) (b : B4) : LB b n.natAbs (numP n) := by
  unfold numP
  by_cases h : n = 0
  · rw [if_pos h]; exact LB.nil _ _
  · rw [if_neg h]
    exact lb_one ⟨0, 0, 0, 0, rfl, Nat.zero_le _, Nat.zero_le _, Nat.zero_le _, Nat.zero_le _⟩ h
/-- what a sum of the law is asked -/
theorem lplus_of {P : Program} {w : World} {K : PySem.W.Frag} {A B : PT} {b : B4} {n m : Nat} {s : Int} {k : Rel → Prop} (hA : LB b n A) (hB : LB b m B) (hv : b.vol ≤ 8388000) (hm : m < 2 ^ 450000) (hs : s.natAbs < 8)
    (hk : k (rDI P w K (nz (sumP A B s)))) : S_L_plus P w K [rDI P w K A, rDI P w K B, rInt s] k :=
  ⟨A, B, s, 450000, rfl, hA.tb, hB.tb, by have := hA.len; have := hB.len; omega, hs, bdP_of hB.l hm, by decide, by decide, hk⟩
theorem small_lt {n : Nat} (h : n < 2 ^ 220) : n < 2 ^ 450000 := Nat.lt_of_lt_of_le h (Nat.pow_le_pow_right (by decide) (by decide))
def S_L_other (P : Program) (w : World) (K : PySem.W.Frag) : Spc := fun rs k => ∃ i : Nat, rs = [rHand P w, rInt (i : Int)] ∧ i < 4 ∧ ∀ m, LB ((bq 1).set i 4) 30 m → k (rDI P w K m)
theorem nz_len (m : PT) : (nz m).length ≤ m.length := by
  unfold nz
  exact Nat.le_trans (List.length_filterMap_le ..) (by rw [List.length_map]; exact Nat.le_refl _)
def S_L_some (P : Program) (w : World) (K : PySem.W.Frag) : Spc := fun rs k => rs = [rHand P w, rInt 2] ∧ ∀ m, LB (bq 60) (2 ^ 200) m → m.length ≤ 40 → k (rDI P w K m)
end Lw
set_option Elab.async false
set_option linter.all false
set_option maxRecDepth 100000
set_option maxHeartbeats 1000000
/-! Q1: fractions: bounds by a common bottom; the worth of a table. -/
namespace Lw
open PySem PySem.Spec PyProof.Rows L2 BX
/-- q is m by D, m at most N -/
def QD (D N : Nat) (q : Rat) : Prop := 0 < D ∧ ∃ m : Int, q = mkRat m D ∧ m.natAbs ≤ N
theorem QD.num {D N : Nat} {q : Rat} (h : QD D N q) : q.num.natAbs ≤ N := by
  obtain ⟨hD, m, rfl, hm⟩ := h
  rw [Rat.num_mkRat, if_neg (by omega)]
  have hg : 0 < D.gcd m.natAbs := Nat.gcd_pos_of_pos_left _ hD
  exact Nat.le_trans (Int.natAbs_ediv_le_natAbs _ _) hm
theorem QD.den {D N : Nat} {q : Rat} (h : QD D N q) : q.den ≤ D := by
  obtain ⟨hD, m, rfl, hm⟩ := h
  rw [Rat.den_mkRat, if_neg (by omega)]
  exact Nat.div_le_self _ _
theorem QD.mono {D N M : Nat} {q : Rat} (h : QD D N q) (hN : N ≤ M) : QD D M q := ⟨h.1, let ⟨m, e, hm⟩ := h.2; ⟨m, e, Nat.le_trans hm hN⟩⟩
theorem QD.zero {D : Nat} (hD : 0 < D) : QD D 0 0 := ⟨hD, 0, by rw [Rat.zero_mkRat], Nat.le_refl _⟩
theorem QD.int (c : Int) : QD 1 c.natAbs (c : Rat) := ⟨by decide, c, by rw [Rat.mkRat_eq_div]; show (c : Rat) = (c : Rat) / (((1 : Nat) : Int) : Rat); rw [show (((1 : Nat) : Int) : Rat) = 1 from rfl, Rat.div_def]; show (c : Rat) = c * 1⁻¹; rw [show (1 : Rat)⁻¹ = 1 by decide +kernel, Rat.mul_one], Nat.le_refl _⟩
theorem QD.add {D N M : Nat} {p q : Rat} (hp : QD D N p) (hq : QD D M q) : QD D (N + M) (p + q) := by
  obtain ⟨hD, m, rfl, hm⟩ := hp
  obtain ⟨_, n, rfl, hn⟩ := hq
  refine ⟨hD, m + n, ?_, by omega⟩
  have hz : D ≠ 0 := by omega
  rw [Rat.mkRat_add_mkRat _ _ hz hz, ← Int.add_mul, Rat.mkRat_mul_right hz]
theorem QD.mul {D E N M : Nat} {p q : Rat} (hp : QD D N p) (hq : QD E M q) : QD (D * E) (N * M) (p * q) := by
  obtain ⟨hD, m, rfl, hm⟩ := hp
  obtain ⟨hE, n, rfl, hn⟩ := hq
  exact ⟨Nat.mul_pos hD hE, m * n, Rat.mkRat_mul_mkRat _ _ _ _, by rw [Int.natAbs_mul]; exact Nat.mul_le_mul hm hn⟩
/-- a power of a fraction below 2^a -/
theorem QD.pow {a E e : Nat} {q : Rat} (h1 : q.num.natAbs < 2 ^ a) (h2 : q.den < 2 ^ a) (he : e ≤ E) : QD (q.den ^ E) (2 ^ (a * E)) (q ^ e) := by
  have hd := q.den_pos
  refine ⟨Nat.pow_pos hd, q.num ^ e * ((q.den ^ (E - e) : Nat) : Int), ?_, ?_⟩
  · have e1 : q ^ e = mkRat (q.num ^ e) (q.den ^ e) := by
      rw [← Rat.num_pow, ← Rat.den_pow, Rat.mkRat_self]
    have hz : q.den ^ (E - e) ≠ 0 := Nat.ne_of_gt (Nat.pow_pos hd)
    have e2 : q.den ^ E = q.den ^ e * q.den ^ (E - e) := by rw [← Nat.pow_add]; congr 1; omega
    rw [e1, e2, Rat.mkRat_mul_right hz]
  · rw [Int.natAbs_mul, Int.natAbs_pow, Int.natAbs_natCast]
    have h3 : q.num.natAbs ^ e ≤ (2 ^ a) ^ e := Nat.pow_le_pow_left (Nat.le_of_lt h1) e
    have h4 : q.den ^ (E - e) ≤ (2 ^ a) ^ (E - e) := Nat.pow_le_pow_left (Nat.le_of_lt h2) _
    have h5 := Nat.mul_le_mul h3 h4
    rw [← Nat.pow_add, show e + (E - e) = E by omega, ← Nat.pow_mul] at h5
    exact h5
/-! ### the worth -/
/-- the worth of powers at a point -/
def mw (ps : List Rat) (k : List Int) : Rat := ps.getD 0 0 ^ (k.getD 0 0).toNat * ps.getD 1 0 ^ (k.getD 1 0).toNat * ps.getD 2 0 ^ (k.getD 2 0).toNat * ps.getD 3 0 ^ (k.getD 3 0).toNat
def wR (ps : List Rat) (m : PT) : Rat := (m.map fun e => (e.2 : Rat) * mw ps e.1).sum
theorem wR_nil (ps : List Rat) : wR ps [] = 0 := rfl
theorem wR_cons (ps : List Rat) (e : List Int × Int) (m : PT) : wR ps (e :: m) = (e.2 : Rat) * mw ps e.1 + wR ps m := by
  unfold wR
  rw [List.map_cons, List.sum_cons]
theorem wR_app (ps : List Rat) : ∀ a b : PT, wR ps (a ++ b) = wR ps a + wR ps b
  | [], b => by rw [List.nil_append, wR_nil, Rat.zero_add]
  | e :: a, b => by rw [List.cons_append, wR_cons, wR_cons, wR_app ps a b, Rat.add_assoc]
theorem wR_perm (ps : List Rat) {a b : PT} (h : a.Perm b) : wR ps a = wR ps b := by
  induction h with
  | nil => rfl
  | cons x _ ih => rw [wR_cons, wR_cons, ih]
  | swap x y l => rw [wR_cons, wR_cons, wR_cons, wR_cons]; grind
  | trans _ _ h1 h2 => rw [h1, h2]
end Lw
set_option Elab.async false
set_option linter.all false
set_option maxRecDepth 100000
set_option maxHeartbeats 1000000
/-! Q2: the worth of equal polynomials, of sums, of products. -/
namespace Lw
open PySem PySem.Spec PyProof.Rows L2 BX
/-- any weight of the keys -/
def evF (f : M4 → Rat) (A : FS) : Rat := (A.map fun e => (e.2 : Rat) * f e.1).sum
theorem evF_cons (f : M4 → Rat) (e : M4 × Int) (A : FS) : evF f (e :: A) = (e.2 : Rat) * f e.1 + evF f A := by
  unfold evF
  rw [List.map_cons, List.sum_cons]
theorem evF_app (f : M4 → Rat) : ∀ A B : FS, evF f (A ++ B) = evF f A + evF f B
  | [], B => by rw [List.nil_append]; show _ = (0 : Rat) + _; rw [Rat.zero_add]
  | e :: A, B => by rw [List.cons_append, evF_cons, evF_cons, evF_app f A B, Rat.add_assoc]
theorem evF_ng (f : M4 → Rat) : ∀ A : FS, evF f (ng A) = - evF f A
  | [] => by show (0 : Rat) = -0; rfl
  | e :: A => by
    have : ng (e :: A) = (e.1, -e.2) :: ng A := rfl
    rw [this, evF_cons, evF_cons, evF_ng f A]
    show ((-e.2 : Int) : Rat) * f e.1 + -evF f A = _
    rw [Rat.intCast_neg]
    grind
theorem ev_part (f : M4 → Rat) (x : M4) : ∀ A : FS, evF f A = (sm A x : Rat) * f x + evF f (A.filter fun e => decide (e.1 ≠ x))
  | [] => by show (0 : Rat) = ((0 : Int) : Rat) * f x + 0; rw [Rat.intCast_zero]; grind
  | e :: A => by
    rw [evF_cons, ev_part f x A]
    have hs : sm (e :: A) x = (if e.1 = x then e.2 else 0) + sm A x := rfl
    rw [hs, List.filter_cons]
    by_cases h : e.1 = x
    · rw [if_pos h, if_neg (by simp [h]), Rat.intCast_add, h]
      grind
    · rw [if_neg h, if_pos (by simp [h]), evF_cons, Int.zero_add]
      grind
theorem sm_filter (x k : M4) : ∀ A : FS, sm (A.filter fun e => decide (e.1 ≠ x)) k = if k = x then 0 else sm A k
  | [] => by show (0 : Int) = if k = x then 0 else 0; split <;> rfl
  | e :: A => by
    rw [List.filter_cons]
    have ih := sm_filter x k A
    have hs : ∀ B : FS, sm (e :: B) k = (if e.1 = k then e.2 else 0) + sm B k := fun _ => rfl
    by_cases h : e.1 = x
    · rw [if_neg (by simp [h]), ih, hs]
      by_cases hk : k = x
      · rw [if_pos hk, if_pos hk]
      · rw [if_neg hk, if_neg hk, if_neg (by rw [h]; exact fun z => hk z.symm), Int.zero_add]
    · rw [if_pos (by simp [h]), hs, ih, hs]
      by_cases hk : k = x
      · rw [if_pos hk, if_pos hk, if_neg (by rw [hk]; exact h), Int.zero_add]
      · rw [if_neg hk, if_neg hk]
theorem ev_zero (f : M4 → Rat) : ∀ (n : Nat) (A : FS), A.length ≤ n → (∀ k, sm A k = 0) → evF f A = 0
  | _, [], _, _ => rfl
  | 0, _ :: _, h, _ => absurd h (by simp)
  | n + 1, e :: A, hl, h => by
    rw [ev_part f e.1 (e :: A), h e.1, Rat.intCast_zero, Rat.zero_mul, Rat.zero_add]
    refine ev_zero f n _ ?_ fun k => ?_
    · rw [List.filter_cons, if_neg (by simp)]
      have := List.length_filter_le (fun d : M4 × Int => decide (d.1 ≠ e.1)) A
      have hl' : A.length + 1 ≤ n + 1 := hl
      omega
    · rw [sm_filter, h k]
      split <;> rfl
theorem ev_sound (f : M4 → Rat) {A B : FS} (h : Pol.mk A = Pol.mk B) : evF f A = evF f B := by
  have e := Pol.exact h
  have z := ev_zero f _ (A ++ ng B) (Nat.le_refl _) fun k => by rw [sm_append, sm_ng, e k]; omega
  rw [evF_app, evF_ng] at z
  grind
theorem evF_row (f : M4 → Rat) (a : M4 × Int) : ∀ B : FS, (∀ b, b ∈ B → f (M4.pl a.1 b.1) = f a.1 * f b.1) → evF f (rowF a B) = (a.2 : Rat) * f a.1 * evF f B
  | [], _ => by show (0 : Rat) = _ * 0; rw [Rat.mul_zero]
  | b :: B, h => by
    have : rowF a (b :: B) = (M4.pl a.1 b.1, a.2 * b.2) :: rowF a B := rfl
    rw [this, evF_cons, evF_cons, evF_row f a B fun d hd => h d (List.mem_cons_of_mem _ hd)]
    show ((a.2 * b.2 : Int) : Rat) * f (M4.pl a.1 b.1) + _ = _
    rw [h b (List.mem_cons_self ..), Rat.intCast_mul]
    grind
theorem evF_prod (f : M4 → Rat) : ∀ A B : FS, (∀ a, a ∈ A → ∀ b, b ∈ B → f (M4.pl a.1 b.1) = f a.1 * f b.1) → evF f (prodF A B) = evF f A * evF f B
  | [], B, _ => by show (0 : Rat) = 0 * _; rw [Rat.zero_mul]
  | a :: A, B, h => by
    rw [prod_cons, evF_app, evF_cons, evF_row f a B (h a (List.mem_cons_self ..)), evF_prod f A B fun x hx => h x (List.mem_cons_of_mem _ hx)]
    grind
/-! ### at a point -/
def mwM (ps : List Rat) (x : M4) : Rat := ps.getD 0 0 ^ x.1.toNat * ps.getD 1 0 ^ x.2.1.toNat * ps.getD 2 0 ^ x.2.2.1.toNat * ps.getD 3 0 ^ x.2.2.2.toNat
theorem wR_ev (ps : List Rat) (m : PT) : wR ps m = evF (mwM ps) (toF m) := by
  unfold wR evF toF
  rw [List.map_map]
  rfl
theorem wR_pol (ps : List Rat) {A B : PT} (h : pol A = pol B) : wR ps A = wR ps B := by
  rw [wR_ev, wR_ev]
  exact ev_sound _ h
theorem pow_addR (q : Rat) (m n : Nat) : q ^ (m + n) = q ^ m * q ^ n := by
  induction n with
  | zero => rw [Nat.add_zero]; show _ = _ * q ^ 0; rw [show q ^ 0 = 1 by grind]; grind
  | succ n ih => rw [← Nat.add_assoc, Rat.pow_succ, Rat.pow_succ, ih]; grind
theorem mwM_pl (ps : List Rat) {x y : M4} (hx : 0 ≤ x.1 ∧ 0 ≤ x.2.1 ∧ 0 ≤ x.2.2.1 ∧ 0 ≤ x.2.2.2) (hy : 0 ≤ y.1 ∧ 0 ≤ y.2.1 ∧ 0 ≤ y.2.2.1 ∧ 0 ≤ y.2.2.2) : mwM ps (M4.pl x y) = mwM ps x * mwM ps y := by
  unfold mwM M4.pl
  rw [show (x.1 + y.1).toNat = x.1.toNat + y.1.toNat by omega, show (x.2.1 + y.2.1).toNat = x.2.1.toNat + y.2.1.toNat by omega, show (x.2.2.1 + y.2.2.1).toNat = x.2.2.1.toNat + y.2.2.1.toNat by omega,
    show (x.2.2.2 + y.2.2.2).toNat = x.2.2.2.toNat + y.2.2.2.toNat by omega, pow_addR, pow_addR, pow_addR, pow_addR]
  grind
theorem nn_of {b : B4} {k : List Int} (h : In b k) : 0 ≤ (nm k).1 ∧ 0 ≤ (nm k).2.1 ∧ 0 ≤ (nm k).2.2.1 ∧ 0 ≤ (nm k).2.2.2 := by
  obtain ⟨x, y, z, u, rfl, _⟩ := h
  exact ⟨Int.natCast_nonneg _, Int.natCast_nonneg _, Int.natCast_nonneg _, Int.natCast_nonneg _⟩
theorem wR_mul (ps : List Rat) {b c : B4} {A B C : PT} (hA : Bx b A) (hB : Bx c B) (h : pol C = pol A * pol B) : wR ps C = wR ps A * wR ps B := by
  rw [wR_ev, wR_ev, wR_ev]
  have h' : Pol.mk (toF C) = Pol.mk (prodF (toF A) (toF B)) := h
  rw [ev_sound _ h']
  refine evF_prod _ _ _ fun x hx y hy => ?_
  obtain ⟨e, he, rfl⟩ := List.mem_map.mp hx
  obtain ⟨d, hd, rfl⟩ := List.mem_map.mp hy
  exact mwM_pl ps (nn_of (hA e he)) (nn_of (hB d hd))
theorem con_ev (f : M4 → Rat) (s : Int) (A : FS) (h : ∀ a, a ∈ A → f (M4.pl M4.no a.1) = f a.1) : evF f (prodF [(M4.no, s)] A) = (s : Rat) * evF f A := by
  have e : prodF [(M4.no, s)] A = rowF (M4.no, s) A := by
    rw [prod_cons]
    show rowF (M4.no, s) A ++ [] = _
    rw [List.append_nil]
  rw [e]
  induction A with
  | nil => show (0 : Rat) = _ * 0; rw [Rat.mul_zero]
  | cons a A ih =>
    have e2 : rowF (M4.no, s) (a :: A) = (M4.pl M4.no a.1, s * a.2) :: rowF (M4.no, s) A := rfl
    have e3 : prodF [(M4.no, s)] A = rowF (M4.no, s) A := by
      rw [prod_cons]
      show rowF (M4.no, s) A ++ [] = _
      rw [List.append_nil]
    rw [e2, evF_cons, evF_cons, ih (fun x hx => h x (List.mem_cons_of_mem _ hx)) e3]
    show ((s * a.2 : Int) : Rat) * f (M4.pl M4.no a.1) + _ = _
    rw [h a (List.mem_cons_self ..), Rat.intCast_mul]
    grind
theorem wR_add (ps : List Rat) {A B C : PT} (s : Int) (h : pol C = pol A + Pol.con s * pol B) : wR ps C = wR ps A + (s : Rat) * wR ps B := by
  rw [wR_ev, wR_ev, wR_ev]
  have h' : Pol.mk (toF C) = Pol.mk (toF A ++ prodF [(M4.no, s)] (toF B)) := h
  rw [ev_sound _ h', evF_app, con_ev]
  intro a _
  rw [M4.comm, M4.zero]
/-! ### bounds -/
structure PsB (a : Nat) (ps : List Rat) : Prop where
  len : ps.length = 4
  b : ∀ p, p ∈ ps → p.num.natAbs < 2 ^ a ∧ p.den < 2 ^ a
def dB (ps : List Rat) (b : B4) : Nat := (ps.getD 0 0).den ^ b.a * (ps.getD 1 0).den ^ b.b * (ps.getD 2 0).den ^ b.c * (ps.getD 3 0).den ^ b.d
def eB (b : B4) : Nat := b.a + b.b + b.c + b.d
theorem PsB.at {a : Nat} {ps : List Rat} (h : PsB a ps) {j : Nat} (hj : j < 4) : (ps.getD j 0).num.natAbs < 2 ^ a ∧ (ps.getD j 0).den < 2 ^ a := by
  have : j < ps.length := by rw [h.len]; exact hj
  rw [List.getD_eq_getElem?_getD, List.getElem?_eq_getElem this]
  exact h.b _ (List.getElem_mem this)
theorem mw_qd {a : Nat} {ps : List Rat} (h : PsB a ps) {b : B4} {k : List Int} (hk : In b k) : QD (dB ps b) (2 ^ (a * eB b)) (mw ps k) := by
  obtain ⟨x, y, z, u, rfl, h1, h2, h3, h4⟩ := hk
  have q0 := QD.pow (h.at (j := 0) (by decide)).1 (h.at (j := 0) (by decide)).2 h1
  have q1 := QD.pow (h.at (j := 1) (by decide)).1 (h.at (j := 1) (by decide)).2 h2
  have q2 := QD.pow (h.at (j := 2) (by decide)).1 (h.at (j := 2) (by decide)).2 h3
  have q3 := QD.pow (h.at (j := 3) (by decide)).1 (h.at (j := 3) (by decide)).2 h4
  have q := ((q0.mul q1).mul q2).mul q3
  rw [← Nat.pow_add, ← Nat.pow_add, ← Nat.pow_add, ← Nat.mul_add, ← Nat.mul_add, ← Nat.mul_add] at q
  exact q
theorem wR_qd {a : Nat} {ps : List Rat} (h : PsB a ps) {b : B4} : ∀ m : PT, Bx b m → QD (dB ps b) (l1 m * 2 ^ (a * eB b)) (wR ps m)
  | [], _ => by
    have := (mw_qd h (b := b) (k := [0, 0, 0, 0]) ⟨0, 0, 0, 0, rfl, Nat.zero_le _, Nat.zero_le _, Nat.zero_le _, Nat.zero_le _⟩).1
    exact (QD.zero this).mono (Nat.zero_le _)
  | e :: m, hb => by
    rw [wR_cons, l1_cons, Nat.add_mul]
    have q := (QD.int e.2).mul (mw_qd h (hb e (List.mem_cons_self ..)))
    rw [Nat.one_mul] at q
    exact q.add (wR_qd h m fun d hd => hb d (List.mem_cons_of_mem _ hd))
theorem dB_le {a : Nat} {ps : List Rat} (h : PsB a ps) (b : B4) : dB ps b ≤ 2 ^ (a * eB b) := by
  have g : ∀ j, j < 4 → ∀ n, (ps.getD j 0).den ^ n ≤ 2 ^ (a * n) := fun j hj n => by
    rw [Nat.pow_mul]
    exact Nat.pow_le_pow_left (Nat.le_of_lt (h.at hj).2) n
  have := Nat.mul_le_mul (Nat.mul_le_mul (Nat.mul_le_mul (g 0 (by decide) b.a) (g 1 (by decide) b.b)) (g 2 (by decide) b.c)) (g 3 (by decide) b.d)
  rw [← Nat.pow_add, ← Nat.pow_add, ← Nat.pow_add, ← Nat.mul_add, ← Nat.mul_add, ← Nat.mul_add] at this
  exact this
/-- below 2^n above and below -/
def QB (n : Nat) (q : Rat) : Prop := q.num.natAbs < 2 ^ n ∧ q.den < 2 ^ n
theorem QB.mono {n m : Nat} {q : Rat} (h : QB n q) (hm : n ≤ m) : QB m q := ⟨Nat.lt_of_lt_of_le h.1 (Nat.pow_le_pow_right (by decide) hm), Nat.lt_of_lt_of_le h.2 (Nat.pow_le_pow_right (by decide) hm)⟩
theorem QD.qb {D N n : Nat} {q : Rat} (h : QD D N q) (hD : D < 2 ^ n) (hN : N < 2 ^ n) : QB n q := ⟨Nat.lt_of_le_of_lt h.num hN, Nat.lt_of_le_of_lt h.den hD⟩
theorem QB.pow {n i : Nat} {q : Rat} (h : QB n q) (hi : 0 < i) : QB (n * i) (q ^ i) := by
  refine ⟨?_, ?_⟩
  · rw [Rat.num_pow, Int.natAbs_pow, Nat.pow_mul]
    exact Nat.pow_lt_pow_left h.1 (by omega)
  · rw [Rat.den_pow, Nat.pow_mul]
    exact Nat.pow_lt_pow_left h.2 (by omega)
end Lw
set_option Elab.async false
set_option linter.all false
set_option maxRecDepth 100000
set_option maxHeartbeats 1000000
namespace Lw
open PySem PySem.Spec PyProof.Rows L2 BX
abbrev rQ (K : PySem.W.Frag) (q : Rat) : Rel := rKey K [q.num, (q.den : Int)]
theorem abs_eq (a : Int) : (if a < 0 then -a else a) = ((a.natAbs : Nat) : Int) := by split <;> omega
def S_divisor_of (P : Program) (w : World) (K : PySem.W.Frag) : Spc := fun rs k => ∃ a b : Int, rs = [rInt a, rInt b] ∧ k (rInt ((a.natAbs.gcd b.natAbs : Nat) : Int))
theorem ok_divisor_of {P : Program} {w : World} {K : PySem.W.Frag} {mg : Str → Option Value} {base : Heap} {f : Addr} {fd : FuncData} (T : Txt K mg) (F : FunD K "divisor_of" "divisor_of" (defArgs s_divisor_of) (defBody s_divisor_of) (defScope s_divisor_of) [] [] f fd)   :
    FnOk P w K mg base CX0 1 f fd ["one", "other"] (spOf (S_divisor_of P w K)) := by
  refine F.ok sc_divisor_of (len_of (by intro rs k h; first | (obtain ⟨e, _⟩ := h; subst e; exact rfl) | (obtain ⟨_, e, _⟩ := h; subst e; exact rfl) | (obtain ⟨_, _, e, _⟩ := h; subst e; exact rfl) | (obtain ⟨_, _, _, e, _⟩ := h; subst e; exact rfl) | (obtain ⟨_, _, _, _, e, _⟩ := h; subst e; exact rfl) | (obtain ⟨_, _, _, _, _, e, _⟩ := h; subst e; exact rfl) | (obtain ⟨_, _, _, _, _, _, e, _⟩ := h; subst e; exact rfl) | (obtain ⟨_, _, _, _, _, _, _, e, _⟩ := h; subst e; exact rfl) | (obtain ⟨_, _, _, _, _, _, _, _, e, _⟩ := h; subst e; exact rfl) | (obtain ⟨_, _, _, _, _, _, _, _, _, e, _⟩ := h; subst e; exact rfl) | (obtain ⟨_, _, _, _, _, _, _, _, _, _, e, _⟩ := h; subst e; exact rfl) | (obtain ⟨_, _, _, _, _, _, _, _, _, _, _, e, _⟩ := h; subst e; exact rfl) | (obtain ⟨_, _, _, _, _, _, _, _, _, _, _, _, e, _⟩ := h; subst e; exact rfl))) (fun cdv A outer s H vs Q E hr h => ?_)
  
  refine ⟨_, PSs.nox (pss_cons (ps_par (i := 0) (j := 1) (by rfl) sc_divisor_of.nd rfl rfl (by decide) rfl rfl (pa_cons (pe_callB k_abs rfl T.b_abs boot_abs (pa_cons (pv 0) pa_nil)) (pa_cons (pe_callB k_abs rfl T.b_abs boot_abs (pa_cons (pv 1) pa_nil)) pa_nil)) (by rfl)) (pss_cons (ps_while PassesOwn.never (pt_cmpR op_gt (pv 1) pe_int (nomark _)) (pss_cons (ps_par (i := 0) (j := 1) (by rfl) sc_divisor_of.nd rfl rfl (by decide) rfl rfl (pa_cons (pv 1) (pa_cons (pe_op op_mod (pv 0) (pv 1)) pa_nil)) (by rfl)) pss_nil)) (pss_cons (ps_ret (pv 0)) pss_nil))), ?_⟩
  refine read_of P w K h rfl fun rs k D hs hD hN => ?_
  obtain ⟨a, b, rfl, hk⟩ := hs
  (refine ws_par ?_; refine wa_cons ?_; (first | refine we_cb ?_ | refine we_xlen ?_); refine wa_cons ?_; refine we_var rfl ?_; refine wa_nil ?_; refine ct_abs ?_; refine wa_cons ?_; (first | refine we_cb ?_ | refine we_xlen ?_); refine wa_cons ?_; refine we_var rfl ?_; refine wa_nil ?_; refine ct_abs ?_; refine wa_nil ?_)
  refine ⟨_, _, rfl, ?_⟩
  rw [abs_eq, abs_eq]
  refine ws_while (fun m Γ => ∃ x y : Nat, Γ = [.im (rInt (x : Int)), .im (rInt (y : Int))] ∧ Nat.gcd x y = a.natAbs.gcd b.natAbs ∧ y ≤ m) b.natAbs ⟨a.natAbs, b.natAbs, rfl, rfl, Nat.le_refl _⟩ fun m Γ1 hΓ => ?_
  obtain ⟨x, y, rfl, hg, hm⟩ := hΓ
  (refine wt_test ?_; refine we_op ?_; refine we_var rfl ?_; refine we_c ?_; refine ot_I0 ?_; refine ⟨_, rfl, ?_⟩)
  refine ⟨fun z => ?_, fun z => ?_⟩
  · have h0 : 0 < y := by have := of_decide_eq_true z; omega
    (refine ws_par ?_; refine wa_cons ?_; refine we_var rfl ?_; refine wa_cons ?_; refine we_op ?_; refine we_var rfl ?_; refine we_var rfl ?_; refine ot_I ?_ ?_)
    · show (0 : Int) < (y : Int)
      omega
    (refine wa_nil ?_)
    refine ⟨_, _, rfl, ?_⟩
    have e : ((x : Int) % (y : Int)) = ((x % y : Nat) : Int) := (Int.natCast_emod x y).symm
    rw [e]
    exact ws_nextE rfl _ (by (repeat' (first | exact Weak.nil | apply Weak.eq | apply Weak.no))) ⟨x % y, Nat.lt_of_lt_of_le (Nat.mod_lt x h0) hm, y, x % y, rfl, by rw [← hg, Nat.gcd_comm x y, Nat.gcd_rec y x, Nat.gcd_comm], Nat.le_refl _⟩
  · have h0 : y = 0 := by have := of_decide_eq_false z; omega
    subst h0
    rw [Nat.gcd_zero_right] at hg
    rw [← hg] at hk
    (refine ws_retS (by assumption) ?_; refine we_var rfl ?_)
    exact hk
theorem rQ_mk (K : PySem.W.Frag) (t : Int) {b : Nat} (hb : 0 < b) : rTup K [rInt (t / ((t.natAbs.gcd b : Nat) : Int)), rInt (((b : Nat) : Int) / ((t.natAbs.gcd b : Nat) : Int))] = rQ K (mkRat t b) := by
  show _ = rTup K [rInt (mkRat t b).num, rInt (((mkRat t b).den : Nat) : Int)]
  rw [Rat.num_mkRat, Rat.den_mkRat, if_neg (by omega), if_neg (by omega), Nat.gcd_comm b t.natAbs, Int.natCast_ediv]
def S_fraction (P : Program) (w : World) (K : PySem.W.Frag) : Spc := fun rs k => ∃ (t : Int) (b : Nat), rs = [rInt t, rInt (b : Int)] ∧ 0 < b ∧ k (rQ K (mkRat t b))
theorem ok_fraction {P : Program} {w : World} {K : PySem.W.Frag} {mg : Str → Option Value} {base : Heap} {f : Addr} {fd fd_divisor_of : FuncData} (T : Txt K mg) (F : FunD K "fraction" "fraction" (defArgs s_fraction) (defBody s_fraction) (defScope s_fraction) [] [] f fd) (c_divisor_of : Callee P w K mg base (He.ga K "divisor_of") fd_divisor_of ["one", "other"] 1 (spOf (S_divisor_of P w K))) (ht : P.given.tree = none) (hsk : seerB K = true) :
    FnOk P w K mg base CX0 40 f fd ["top", "bottom"] (spOf (S_fraction P w K)) := by
  refine F.ok sc_fraction (len_of (by intro rs k h; first | (obtain ⟨e, _⟩ := h; subst e; exact rfl) | (obtain ⟨_, e, _⟩ := h; subst e; exact rfl) | (obtain ⟨_, _, e, _⟩ := h; subst e; exact rfl) | (obtain ⟨_, _, _, e, _⟩ := h; subst e; exact rfl) | (obtain ⟨_, _, _, _, e, _⟩ := h; subst e; exact rfl) | (obtain ⟨_, _, _, _, _, e, _⟩ := h; subst e; exact rfl) | (obtain ⟨_, _, _, _, _, _, e, _⟩ := h; subst e; exact rfl) | (obtain ⟨_, _, _, _, _, _, _, e, _⟩ := h; subst e; exact rfl) | (obtain ⟨_, _, _, _, _, _, _, _, e, _⟩ := h; subst e; exact rfl) | (obtain ⟨_, _, _, _, _, _, _, _, _, e, _⟩ := h; subst e; exact rfl) | (obtain ⟨_, _, _, _, _, _, _, _, _, _, e, _⟩ := h; subst e; exact rfl) | (obtain ⟨_, _, _, _, _, _, _, _, _, _, _, e, _⟩ := h; subst e; exact rfl) | (obtain ⟨_, _, _, _, _, _, _, _, _, _, _, _, e, _⟩ := h; subst e; exact rfl))) (fun cdv A outer s H vs Q E hr h => ?_)
  
  refine ⟨_, PSs.nox (pss_cons (ps_if (pt_cmpR op_lt (pv 1) pe_int (nomark _)) (pss_cons (ps_par (i := 0) (j := 1) (by rfl) sc_fraction.nd rfl rfl (by decide) rfl rfl (pa_cons (pe_un un_neg (pv 0)) (pa_cons (pe_un un_neg (pv 1)) pa_nil)) (by rfl)) pss_nil) pss_nil) (pss_cons (ps_set (i := 2) sc_fraction.nd rfl (by first | exact Or.inl rfl | exact Or.inr rfl) (pe_call (c_divisor_of.F.mono (by decide)) hr rfl T.g_divisor_of c_divisor_of.kp c_divisor_of.b .nil pass0 (pa_cons (pv 0) (pa_cons (pv 1) pa_nil)))) (pss_cons (ps_ret (pe_tup (pa_cons (pe_op (op_fdivP ⟨ht, hsk, rfl, rfl, rfl, dp_of hr (by decide)⟩) (pv 0) (pv 2)) (pa_cons (pe_op (op_fdivP ⟨ht, hsk, rfl, rfl, rfl, dp_of hr (by decide)⟩) (pv 1) (pv 2)) pa_nil)))) pss_nil))), ?_⟩
  refine read_of P w K h rfl fun rs k D hs hD hN => ?_
  obtain ⟨t, b, rfl, hb, hk⟩ := hs
  have hg : 0 < t.natAbs.gcd b := Nat.gcd_pos_of_pos_right _ hb
  (refine ws_if ?_; refine wt_test ?_; refine we_op ?_; refine we_var rfl ?_; refine we_c ?_; refine ot_I0 ?_; refine ⟨_, rfl, ?_⟩)
  refine ⟨fun z => absurd (of_decide_eq_true z) (by omega), fun _ => ?_⟩
  ((first | exact ws_end (by assumption) (by assumption) | refine ws_thru ?_); (first | refine ws_asg ?_ | refine ws_asgG ?_); refine we_call ?_; refine wa_cons ?_; refine we_var rfl ?_; refine wa_cons ?_; refine we_var rfl ?_; refine wa_nil ?_)
  refine ⟨t, (b : Int), rfl, ?_⟩
  rw [Int.natAbs_natCast]
  (refine ws_retS (by assumption) ?_; refine we_tup ?_; refine wa_cons ?_; refine we_op ?_; refine we_var rfl ?_; refine we_var rfl ?_; refine ot_I ?_ ?_)
  · show (0 : Int) < _
    omega
  (refine wa_cons ?_; refine we_op ?_; refine we_var rfl ?_; refine we_var rfl ?_; refine ot_I ?_ ?_)
  · show (0 : Int) < _
    omega
  (refine wa_nil ?_; refine ⟨Nat.le_of_ble_eq_true rfl, ?_⟩)
  rw [rQ_mk K t hb]
  exact hk
def S_is_fraction (P : Program) (w : World) (K : PySem.W.Frag) : Spc := fun rs k => ∃ q : Rat, rs = [rQ K q] ∧ k (rBl true)
theorem ok_is_fraction {P : Program} {w : World} {K : PySem.W.Frag} {mg : Str → Option Value} {base : Heap} {f : Addr} {fd fd_divisor_of fd_is_integer : FuncData} (T : Txt K mg) (F : FunD K "is_fraction" "is_fraction" (defArgs s_is_fraction) (defBody s_is_fraction) (defScope s_is_fraction) [] [] f fd) (c_divisor_of : Callee P w K mg base (He.ga K "divisor_of") fd_divisor_of ["one", "other"] 1 (spOf (S_divisor_of P w K))) (c_is_integer : Callee P w K mg base (He.ga K "is_integer") fd_is_integer ["thing"] 1 (spOf (S_is_integer P w K)))  :
    FnOk P w K mg base CX0 2 f fd ["thing"] (spOf (S_is_fraction P w K)) := by
  refine F.ok sc_is_fraction (len_of (by intro rs k h; first | (obtain ⟨e, _⟩ := h; subst e; exact rfl) | (obtain ⟨_, e, _⟩ := h; subst e; exact rfl) | (obtain ⟨_, _, e, _⟩ := h; subst e; exact rfl) | (obtain ⟨_, _, _, e, _⟩ := h; subst e; exact rfl) | (obtain ⟨_, _, _, _, e, _⟩ := h; subst e; exact rfl) | (obtain ⟨_, _, _, _, _, e, _⟩ := h; subst e; exact rfl) | (obtain ⟨_, _, _, _, _, _, e, _⟩ := h; subst e; exact rfl) | (obtain ⟨_, _, _, _, _, _, _, e, _⟩ := h; subst e; exact rfl) | (obtain ⟨_, _, _, _, _, _, _, _, e, _⟩ := h; subst e; exact rfl) | (obtain ⟨_, _, _, _, _, _, _, _, _, e, _⟩ := h; subst e; exact rfl) | (obtain ⟨_, _, _, _, _, _, _, _, _, _, e, _⟩ := h; subst e; exact rfl) | (obtain ⟨_, _, _, _, _, _, _, _, _, _, _, e, _⟩ := h; subst e; exact rfl) | (obtain ⟨_, _, _, _, _, _, _, _, _, _, _, _, e, _⟩ := h; subst e; exact rfl))) (fun cdv A outer s H vs Q E hr h => ?_)
  
  refine ⟨_, PSs.nox (pss_cons (ps_if (PW.pt (pw_or (pt_not (pt_val (pe_callB (k_isi (P := P) (w := w) (K := K) rfl rfl rfl) rfl T.b_isinstance boot_isinstance (pa_cons (pv 0) (pa_cons (pe_bltn (v := .ty "tuple") rfl T.b_tuple boot_tuple rfl) pa_nil))))) (pw_or (pt_cmpR op_ne (pe_callB (k_len (K := K) rfl) rfl T.b_len boot_len (pa_cons (pv 0) pa_nil)) pe_int (nomark _)) (pw_or (pt_not (pt_val (pe_call (c_is_integer.F.mono (by decide)) hr rfl T.g_is_integer c_is_integer.kp c_is_integer.b .nil pass0 (pa_cons (pe_ix (k_ixT (K := K) rfl) (pv 0) pe_int (fun _ _ => rfl)) pa_nil)))) (pw_or1 (pt_not (pt_val (pe_call (c_is_integer.F.mono (by decide)) hr rfl T.g_is_integer c_is_integer.kp c_is_integer.b .nil pass0 (pa_cons (pe_ix (k_ixT (K := K) rfl) (pv 0) pe_int (fun _ _ => rfl)) pa_nil))))))))) (pss_cons (ps_ret pe_bl) pss_nil) pss_nil) (pss_cons (ps_ret (pe_and (pe_cmpR op_gt (pe_ix (k_ixT (K := K) rfl) (pv 0) pe_int (fun _ _ => rfl)) pe_int (nomark _)) (pe_one (pe_cmpR op_eq (pe_call (c_divisor_of.F.mono (by decide)) hr rfl T.g_divisor_of c_divisor_of.kp c_divisor_of.b .nil pass0 (pa_cons (pe_ix (k_ixT (K := K) rfl) (pv 0) pe_int (fun _ _ => rfl)) (pa_cons (pe_ix (k_ixT (K := K) rfl) (pv 0) pe_int (fun _ _ => rfl)) pa_nil))) pe_int (nomark _))))) pss_nil)), ?_⟩
  refine read_of P w K h rfl fun rs k D hs hD hN => ?_
  obtain ⟨q, rfl, hk⟩ := hs
  have hd := q.den_pos
  (refine ws_if ?_; refine wt_or ?_; refine wt_not ?_; refine wt_B ?_; (first | refine we_cb ?_ | refine we_xlen ?_); refine wa_cons ?_; refine we_var rfl ?_; refine wa_cons ?_; refine we_c ?_; refine wa_nil ?_)
  refine ct_isi ty_tup (.ty _) (k_tt _) ?_
  (refine ⟨_, rfl, ?_⟩; refine ⟨fun z => Bool.noConfusion (show true = false from by first | exact z | exact z.symm), fun _ => ?_⟩; refine wt_or ?_; refine wt_test ?_; refine we_op ?_; (first | refine we_cb ?_ | refine we_xlen ?_); refine wa_cons ?_; refine we_var rfl ?_; refine wa_nil ?_; (first | refine ct_lenT ?_ | refine ct_lenL ?_); refine we_c ?_; refine ot_ne rfl ?_; refine ⟨_, rfl, ?_⟩)
  refine ⟨fun z => absurd z (by simp []), fun _ => ?_⟩
  (refine wt_or ?_; refine wt_not ?_; refine wt_B ?_; refine we_call ?_; refine wa_cons ?_; refine we_op ?_; refine we_var rfl ?_; refine we_c ?_)
  refine ot_ixT (r := rInt q.num) rfl ?_
  (refine wa_nil ?_)
  refine ⟨_, rfl, ?_⟩
  (refine ⟨_, rfl, ?_⟩; refine ⟨fun z => Bool.noConfusion (show true = false from by first | exact z | exact z.symm), fun _ => ?_⟩; refine wt_not ?_; refine wt_B ?_; refine we_call ?_; refine wa_cons ?_; refine we_op ?_; refine we_var rfl ?_; refine we_c ?_)
  refine ot_ixT (r := rInt (q.den : Int)) rfl ?_
  (refine wa_nil ?_)
  refine ⟨_, rfl, ?_⟩
  (refine ⟨_, rfl, ?_⟩; refine ⟨fun z => Bool.noConfusion (show true = false from by first | exact z | exact z.symm), fun _ => ?_⟩; (first | exact ws_end (by assumption) (by assumption) | refine ws_thru ?_); refine ws_retS (by assumption) ?_; refine we_andV ?_; refine we_op ?_; refine we_op ?_; refine we_var rfl ?_; refine we_c ?_)
  refine ot_ixT (r := rInt (q.den : Int)) rfl ?_
  (refine we_c ?_; refine ot_I0 ?_; refine ⟨_, rfl, ?_⟩)
  refine ⟨fun _ => ?_, fun z => absurd (of_decide_eq_false z) (by omega)⟩
  (refine we_op ?_; refine we_call ?_; refine wa_cons ?_; refine we_op ?_; refine we_var rfl ?_; refine we_c ?_)
  refine ot_ixT (r := rInt q.num) rfl ?_
  (refine wa_cons ?_; refine we_op ?_; refine we_var rfl ?_; refine we_c ?_)
  refine ot_ixT (r := rInt (q.den : Int)) rfl ?_
  (refine wa_nil ?_)
  refine ⟨_, _, rfl, ?_⟩
  rw [Int.natAbs_natCast, show q.num.natAbs.gcd q.den = 1 from q.reduced]
  (refine we_c ?_; refine ot_eq rfl ?_)
  exact hk
theorem qb_mul {n : Nat} {p q : Rat} (hp : QB n p) (hq : QB n q) (h0 : 0 < n) (hn : n ≤ 490000) {i j : Int} (hi : i = p.num ∨ i = (p.den : Int)) (hj : j = q.num ∨ j = (q.den : Int)) : CMulW i j := by
  refine wide_mul (a := n) (b := n) ?_ ?_ h0 h0 (by omega)
  · rcases hi with rfl | rfl
    · exact hp.1
    · rw [Int.natAbs_natCast]; exact hp.2
  · rcases hj with rfl | rfl
    · exact hq.1
    · rw [Int.natAbs_natCast]; exact hq.2
def S_added (P : Program) (w : World) (K : PySem.W.Frag) : Spc := fun rs k => ∃ (p q : Rat) (n : Nat), rs = [rQ K p, rQ K q] ∧ QB n p ∧ QB n q ∧ 0 < n ∧ n ≤ 490000 ∧ k (rQ K (p + q))
theorem ok_added {P : Program} {w : World} {K : PySem.W.Frag} {mg : Str → Option Value} {base : Heap} {f : Addr} {fd fd_fraction : FuncData} (T : Txt K mg) (F : FunD K "added" "added" (defArgs s_added) (defBody s_added) (defScope s_added) [] [] f fd) (c_fraction : Callee P w K mg base (He.ga K "fraction") fd_fraction ["top", "bottom"] 40 (spOf (S_fraction P w K)))  :
    FnOk P w K mg base CX0 41 f fd ["one", "other"] (spOf (S_added P w K)) := by
  refine F.ok sc_added (len_of (by intro rs k h; first | (obtain ⟨e, _⟩ := h; subst e; exact rfl) | (obtain ⟨_, e, _⟩ := h; subst e; exact rfl) | (obtain ⟨_, _, e, _⟩ := h; subst e; exact rfl) | (obtain ⟨_, _, _, e, _⟩ := h; subst e; exact rfl) | (obtain ⟨_, _, _, _, e, _⟩ := h; subst e; exact rfl) | (obtain ⟨_, _, _, _, _, e, _⟩ := h; subst e; exact rfl) | (obtain ⟨_, _, _, _, _, _, e, _⟩ := h; subst e; exact rfl) | (obtain ⟨_, _, _, _, _, _, _, e, _⟩ := h; subst e; exact rfl) | (obtain ⟨_, _, _, _, _, _, _, _, e, _⟩ := h; subst e; exact rfl) | (obtain ⟨_, _, _, _, _, _, _, _, _, e, _⟩ := h; subst e; exact rfl) | (obtain ⟨_, _, _, _, _, _, _, _, _, _, e, _⟩ := h; subst e; exact rfl) | (obtain ⟨_, _, _, _, _, _, _, _, _, _, _, e, _⟩ := h; subst e; exact rfl) | (obtain ⟨_, _, _, _, _, _, _, _, _, _, _, _, e, _⟩ := h; subst e; exact rfl))) (fun cdv A outer s H vs Q E hr h => ?_)
  
  refine ⟨_, PSs.nox (pss_cons (ps_ret (pe_call (c_fraction.F.mono (by decide)) hr rfl T.g_fraction c_fraction.kp c_fraction.b .nil pass0 (pa_cons (pe_op op_add (pe_op op_mulW (pe_ix (k_ixT (K := K) rfl) (pv 0) pe_int (fun _ _ => rfl)) (pe_ix (k_ixT (K := K) rfl) (pv 1) pe_int (fun _ _ => rfl))) (pe_op op_mulW (pe_ix (k_ixT (K := K) rfl) (pv 1) pe_int (fun _ _ => rfl)) (pe_ix (k_ixT (K := K) rfl) (pv 0) pe_int (fun _ _ => rfl)))) (pa_cons (pe_op op_mulW (pe_ix (k_ixT (K := K) rfl) (pv 0) pe_int (fun _ _ => rfl)) (pe_ix (k_ixT (K := K) rfl) (pv 1) pe_int (fun _ _ => rfl))) pa_nil)))) pss_nil), ?_⟩
  refine read_of P w K h rfl fun rs k D hs hD hN => ?_
  obtain ⟨p, q, n, rfl, hp, hq, h0, hn, hk⟩ := hs
  (refine ws_retS (by assumption) ?_; refine we_call ?_; refine wa_cons ?_; refine we_op ?_; refine we_op ?_; refine we_op ?_; refine we_var rfl ?_; refine we_c ?_)
  refine ot_ixT (r := rInt p.num) rfl ?_
  (refine we_op ?_; refine we_var rfl ?_; refine we_c ?_)
  refine ot_ixT (r := rInt (q.den : Int)) rfl ?_
  (refine ot_I ?_ ?_)
  · exact qb_mul hp hq h0 hn (.inl rfl) (.inr rfl)
  (refine we_op ?_; refine we_op ?_; refine we_var rfl ?_; refine we_c ?_)
  refine ot_ixT (r := rInt q.num) rfl ?_
  (refine we_op ?_; refine we_var rfl ?_; refine we_c ?_)
  refine ot_ixT (r := rInt (p.den : Int)) rfl ?_
  (refine ot_I ?_ ?_)
  · exact qb_mul hq hp h0 hn (.inl rfl) (.inr rfl)
  (refine ot_I0 ?_; refine wa_cons ?_; refine we_op ?_; refine we_op ?_; refine we_var rfl ?_; refine we_c ?_)
  refine ot_ixT (r := rInt (p.den : Int)) rfl ?_
  (refine we_op ?_; refine we_var rfl ?_; refine we_c ?_)
  refine ot_ixT (r := rInt (q.den : Int)) rfl ?_
  (refine ot_I ?_ ?_)
  · exact qb_mul hp hq h0 hn (.inr rfl) (.inr rfl)
  (refine wa_nil ?_)
  refine ⟨p.num * (q.den : Int) + q.num * (p.den : Int), p.den * q.den, ?_, Nat.mul_pos p.den_pos q.den_pos, ?_⟩
  · rw [Int.natCast_mul]
  rw [← Rat.add_def']
  exact hk
def S_multiplied (P : Program) (w : World) (K : PySem.W.Frag) : Spc := fun rs k => ∃ (p q : Rat) (n : Nat), rs = [rQ K p, rQ K q] ∧ QB n p ∧ QB n q ∧ 0 < n ∧ n ≤ 490000 ∧ k (rQ K (p * q))
theorem ok_multiplied {P : Program} {w : World} {K : PySem.W.Frag} {mg : Str → Option Value} {base : Heap} {f : Addr} {fd fd_fraction : FuncData} (T : Txt K mg) (F : FunD K "multiplied" "multiplied" (defArgs s_multiplied) (defBody s_multiplied) (defScope s_multiplied) [] [] f fd) (c_fraction : Callee P w K mg base (He.ga K "fraction") fd_fraction ["top", "bottom"] 40 (spOf (S_fraction P w K)))  :
    FnOk P w K mg base CX0 41 f fd ["one", "other"] (spOf (S_multiplied P w K)) := by
  refine F.ok sc_multiplied (len_of (by intro rs k h; first | (obtain ⟨e, _⟩ := h; subst e; exact rfl) | (obtain ⟨_, e, _⟩ := h; subst e; exact rfl) | (obtain ⟨_, _, e, _⟩ := h; subst e; exact rfl) | (obtain ⟨_, _, _, e, _⟩ := h; subst e; exact rfl) | (obtain ⟨_, _, _, _, e, _⟩ := h; subst e; exact rfl) | (obtain ⟨_, _, _, _, _, e, _⟩ := h; subst e; exact rfl) | (obtain ⟨_, _, _, _, _, _, e, _⟩ := h; subst e; exact rfl) | (obtain ⟨_, _, _, _, _, _, _, e, _⟩ := h; subst e; exact rfl) | (obtain ⟨_, _, _, _, _, _, _, _, e, _⟩ := h; subst e; exact rfl) | (obtain ⟨_, _, _, _, _, _, _, _, _, e, _⟩ := h; subst e; exact rfl) | (obtain ⟨_, _, _, _, _, _, _, _, _, _, e, _⟩ := h; subst e; exact rfl) | (obtain ⟨_, _, _, _, _, _, _, _, _, _, _, e, _⟩ := h; subst e; exact rfl) | (obtain ⟨_, _, _, _, _, _, _, _, _, _, _, _, e, _⟩ := h; subst e; exact rfl))) (fun cdv A outer s H vs Q E hr h => ?_)
  
  refine ⟨_, PSs.nox (pss_cons (ps_ret (pe_call (c_fraction.F.mono (by decide)) hr rfl T.g_fraction c_fraction.kp c_fraction.b .nil pass0 (pa_cons (pe_op op_mulW (pe_ix (k_ixT (K := K) rfl) (pv 0) pe_int (fun _ _ => rfl)) (pe_ix (k_ixT (K := K) rfl) (pv 1) pe_int (fun _ _ => rfl))) (pa_cons (pe_op op_mulW (pe_ix (k_ixT (K := K) rfl) (pv 0) pe_int (fun _ _ => rfl)) (pe_ix (k_ixT (K := K) rfl) (pv 1) pe_int (fun _ _ => rfl))) pa_nil)))) pss_nil), ?_⟩
  refine read_of P w K h rfl fun rs k D hs hD hN => ?_
  obtain ⟨p, q, n, rfl, hp, hq, h0, hn, hk⟩ := hs
  (refine ws_retS (by assumption) ?_; refine we_call ?_; refine wa_cons ?_; refine we_op ?_; refine we_op ?_; refine we_var rfl ?_; refine we_c ?_)
  refine ot_ixT (r := rInt p.num) rfl ?_
  (refine we_op ?_; refine we_var rfl ?_; refine we_c ?_)
  refine ot_ixT (r := rInt q.num) rfl ?_
  (refine ot_I ?_ ?_)
  · exact qb_mul hp hq h0 hn (.inl rfl) (.inl rfl)
  (refine wa_cons ?_; refine we_op ?_; refine we_op ?_; refine we_var rfl ?_; refine we_c ?_)
  refine ot_ixT (r := rInt (p.den : Int)) rfl ?_
  (refine we_op ?_; refine we_var rfl ?_; refine we_c ?_)
  refine ot_ixT (r := rInt (q.den : Int)) rfl ?_
  (refine ot_I ?_ ?_)
  · exact qb_mul hp hq h0 hn (.inr rfl) (.inr rfl)
  (refine wa_nil ?_)
  refine ⟨p.num * q.num, p.den * q.den, ?_, Nat.mul_pos p.den_pos q.den_pos, ?_⟩
  · rw [Int.natCast_mul]
  rw [← Rat.mul_def']
  exact hk
def S_raised (P : Program) (w : World) (K : PySem.W.Frag) : Spc := fun rs k => ∃ (p : Rat) (m n : Nat), rs = [rQ K p, rInt (m : Int)] ∧ QB n p ∧ 0 < n ∧ n * (m + 1) ≤ 490000 ∧ k (rQ K (p ^ m))
theorem ok_raised {P : Program} {w : World} {K : PySem.W.Frag} {mg : Str → Option Value} {base : Heap} {f : Addr} {fd fd_multiplied : FuncData} (T : Txt K mg) (F : FunD K "raised" "raised" (defArgs s_raised) (defBody s_raised) (defScope s_raised) [] [] f fd) (c_multiplied : Callee P w K mg base (He.ga K "multiplied") fd_multiplied ["one", "other"] 41 (spOf (S_multiplied P w K))) (no : ∀ H, SqT K H (He.ga K "ONE") ([1, 1].map V.int)) :
    FnOk P w K mg base CX0 42 f fd ["number", "many"] (spOf (S_raised P w K)) := by
  refine F.ok sc_raised (len_of (by intro rs k h; first | (obtain ⟨e, _⟩ := h; subst e; exact rfl) | (obtain ⟨_, e, _⟩ := h; subst e; exact rfl) | (obtain ⟨_, _, e, _⟩ := h; subst e; exact rfl) | (obtain ⟨_, _, _, e, _⟩ := h; subst e; exact rfl) | (obtain ⟨_, _, _, _, e, _⟩ := h; subst e; exact rfl) | (obtain ⟨_, _, _, _, _, e, _⟩ := h; subst e; exact rfl) | (obtain ⟨_, _, _, _, _, _, e, _⟩ := h; subst e; exact rfl) | (obtain ⟨_, _, _, _, _, _, _, e, _⟩ := h; subst e; exact rfl) | (obtain ⟨_, _, _, _, _, _, _, _, e, _⟩ := h; subst e; exact rfl) | (obtain ⟨_, _, _, _, _, _, _, _, _, e, _⟩ := h; subst e; exact rfl) | (obtain ⟨_, _, _, _, _, _, _, _, _, _, e, _⟩ := h; subst e; exact rfl) | (obtain ⟨_, _, _, _, _, _, _, _, _, _, _, e, _⟩ := h; subst e; exact rfl) | (obtain ⟨_, _, _, _, _, _, _, _, _, _, _, _, e, _⟩ := h; subst e; exact rfl))) (fun cdv A outer s H vs Q E hr h => ?_)
  
  refine ⟨_, PSs.nox (pss_cons (ps_set (i := 2) sc_raised.nd rfl (by first | exact Or.inl rfl | exact Or.inr rfl) (pe_glob (v := .ref (He.ga K "ONE")) rfl T.c_ONE rfl)) (pss_cons (ps_for PassesOwn.never rfl (pi_range1 rfl T.b_range (pa_cons (pv 1) pa_nil)) (pg_name (i := 3) sc_raised.nd rfl (by first | exact Or.inl rfl | exact Or.inr rfl)) (pss_cons (ps_set (i := 2) sc_raised.nd rfl (by first | exact Or.inl rfl | exact Or.inr rfl) (pe_call (c_multiplied.F.mono (by decide)) hr rfl T.g_multiplied c_multiplied.kp c_multiplied.b .nil pass0 (pa_cons (pv 2) (pa_cons (pv 0) pa_nil)))) pss_nil)) (pss_cons (ps_ret (pv 2)) pss_nil))), ?_⟩
  refine read_of P w K h rfl fun rs k D hs hD hN => ?_
  obtain ⟨p, m, n, rfl, hp, h0, hn, hk⟩ := hs
  ((first | refine ws_asg ?_ | refine ws_asgG ?_))
  refine we_cr (rKey K [1, 1]) (fun H _ => rKey_of (no H)) ?_
  refine ws_forF (List.range m) (g := fun j => rInt (j : Int)) (1 : Rat) (fun q _ => q * p) (fun q => [.im (rQ K p), .im (rInt (m : Int)), .im (rQ K q), .no]) ?_
  have fold : ∀ j, (List.range j).foldl (fun (q : Rat) (_ : Nat) => q * p) 1 = p ^ j := by
    intro j
    induction j with
    | zero => exact (show (1 : Rat) = p ^ 0 by grind)
    | succ j ih =>
      rw [List.range_succ, List.foldl_append, ih, Rat.pow_succ]
      rfl
  have hm : n * (m + 1) = n * m + n := Nat.mul_succ n m
  have hpos : n * (m + 1) ≠ 0 := by omega
  (refine wi_rng1 ?_; refine wa_cons ?_; refine we_var rfl ?_; refine wa_nil ?_; refine ⟨_, rfl, ?_⟩)
  have hm2 : m ≤ n * m := Nat.le_mul_of_pos_left m h0
  refine ⟨by omega, by omega, by rw [List.length_range]; omega, fun j hj => by rw [List.getElem_range], by (repeat' (first | exact Weak.nil | apply Weak.eq | apply Weak.no)), fun j hj G st => ?_, ?_⟩
  · rw [List.length_range] at hj
    have e : (List.range m).take j = List.range j := by rw [List.take_range, Nat.min_eq_left (Nat.le_of_lt hj)]
    rw [e, fold]
    refine ⟨_, _, wg_name, ?_⟩
    have q1 : QB (n * (m + 1)) (p ^ j) := by
      by_cases h : j = 0
      · subst h
        rw [show p ^ 0 = (1 : Rat) by grind]
        exact ⟨Nat.one_lt_two_pow hpos, Nat.one_lt_two_pow hpos⟩
      · exact (hp.pow (by omega : 0 < j)).mono (Nat.mul_le_mul_left n (by omega))
    have q2 : QB (n * (m + 1)) p := hp.mono (by omega)
    ((first | refine ws_asg ?_ | refine ws_asgG ?_); refine we_call ?_; refine wa_cons ?_; refine we_var rfl ?_; refine wa_cons ?_; refine we_var rfl ?_; refine wa_nil ?_)
    refine ⟨_, _, _, rfl, q1, q2, by omega, hn, ?_⟩
    skip
    exact ws_nextW rfl (by (repeat' (first | exact Weak.nil | apply Weak.eq | apply Weak.no)))
  · rw [fold]
    (refine ws_retS (by assumption) ?_; refine we_var rfl ?_)
    exact hk
end Lw
set_option Elab.async false
set_option linter.all false
set_option maxRecDepth 100000
set_option maxHeartbeats 1000000
namespace Lw
open PySem PySem.Spec PyProof.Rows L2 BX
/-- the product of the first powers -/
def pm (ps : List Rat) (k : List Int) : Nat → Rat
  | 0 => 1
  | j + 1 => pm ps k j * ps.getD j 0 ^ (k.getD j 0).toNat
theorem pm_mw (ps : List Rat) (k : List Int) : pm ps k 4 = mw ps k := by
  unfold pm pm pm pm pm mw
  grind
def sB (b : B4) : Nat → Nat
  | 0 => 0
  | j + 1 => sB b j + b.at j
theorem sB_le (b : B4) {j : Nat} (hj : j ≤ 4) : sB b j ≤ eB b := by
  unfold eB
  match j, hj with
  | 0, _ => show 0 ≤ _; omega
  | 1, _ => show 0 + b.a ≤ _; omega
  | 2, _ => show 0 + b.a + b.b ≤ _; omega
  | 3, _ => show 0 + b.a + b.b + b.c ≤ _; omega
  | 4, _ => show 0 + b.a + b.b + b.c + b.d ≤ _; omega
theorem pm_qd {a : Nat} {ps : List Rat} (h : PsB a ps) {b : B4} {k : List Int} (hk : In b k) : ∀ j, j ≤ 4 → ∃ D, D ≤ 2 ^ (a * sB b j) ∧ QD D (2 ^ (a * sB b j)) (pm ps k j)
  | 0, _ => ⟨1, Nat.one_le_two_pow, by decide, 1, (show (1 : Rat) = mkRat 1 1 by decide +kernel), Nat.one_le_two_pow⟩
  | j + 1, hj => by
    obtain ⟨D, h1, h2⟩ := pm_qd h hk j (by omega)
    have q := QD.pow (h.at (j := j) (by omega)).1 (h.at (j := j) (by omega)).2 ((in_at.mp hk).2 j (by omega)).2
    have hd : (ps.getD j 0).den ^ b.at j ≤ 2 ^ (a * b.at j) := by
      rw [Nat.pow_mul]
      exact Nat.pow_le_pow_left (Nat.le_of_lt (h.at (j := j) (by omega)).2) _
    refine ⟨D * (ps.getD j 0).den ^ b.at j, ?_, ?_⟩
    · show _ ≤ 2 ^ (a * (sB b j + b.at j))
      rw [Nat.mul_add, Nat.pow_add]
      exact Nat.mul_le_mul h1 hd
    · show QD _ (2 ^ (a * (sB b j + b.at j))) _
      rw [Nat.mul_add, Nat.pow_add]
      exact h2.mul q
/-- a count times the first powers -/
theorem pm_qb {a c : Nat} {ps : List Rat} (h : PsB a ps) {b : B4} {k : List Int} (hk : In b k) {n : Int} (hn : n.natAbs < 2 ^ c) {j : Nat} (hj : j ≤ 4) : QB (a * eB b + c + 1) ((n : Rat) * pm ps k j) := by
  obtain ⟨D, h1, h2⟩ := pm_qd h hk j hj
  have q := (QD.int n).mul h2
  have hs : a * sB b j ≤ a * eB b := Nat.mul_le_mul_left a (sB_le b hj)
  rw [Nat.one_mul] at q
  refine q.qb ?_ ?_
  · exact Nat.lt_of_le_of_lt h1 (Nat.pow_lt_pow_right (by decide) (by omega))
  · have e : n.natAbs * 2 ^ (a * sB b j) ≤ 2 ^ c * 2 ^ (a * eB b) := Nat.mul_le_mul (Nat.le_of_lt hn) (Nat.pow_le_pow_right (by decide) hs)
    rw [← Nat.pow_add] at e
    exact Nat.lt_of_le_of_lt e (Nat.pow_lt_pow_right (by decide) (by omega))
theorem wR_qb {a c : Nat} {ps : List Rat} (h : PsB a ps) {b : B4} {m : PT} (hm : Bx b m) (hl : l1 m < 2 ^ c) : QB (a * eB b + c + 1) (wR ps m) := by
  have q := wR_qd h m hm
  refine q.qb ?_ ?_
  · exact Nat.lt_of_le_of_lt (dB_le h b) (Nat.pow_lt_pow_right (by decide) (by omega))
  · have e : l1 m * 2 ^ (a * eB b) ≤ 2 ^ c * 2 ^ (a * eB b) := Nat.mul_le_mul_right _ (Nat.le_of_lt hl)
    rw [← Nat.pow_add] at e
    exact Nat.lt_of_le_of_lt e (Nat.pow_lt_pow_right (by decide) (by omega))
theorem wR_fold (ps : List Rat) : ∀ (m : PT) (q : Rat), m.foldl (fun q t => q + (t.2 : Rat) * mw ps t.1) q = q + wR ps m
  | [], q => by rw [wR_nil, Rat.add_zero]; rfl
  | e :: m, q => by rw [List.foldl_cons, wR_fold ps m, wR_cons, Rat.add_assoc]
theorem l1_take (m : PT) (i : Nat) : l1 (m.take i) ≤ l1 m := by
  have := l1_append (m.take i) (m.drop i)
  rw [List.take_append_drop] at this
  omega
def S_worth_at (P : Program) (w : World) (K : PySem.W.Frag) : Spc := fun rs k => ∃ (C : Addr) (ts : PT) (b : B4) (ps : List Rat) (a c : Nat), rs = [rPT K C ts, rTup K (ps.map (rQ K))] ∧ PolyC K C ∧ Bx b ts ∧ PsB a ps ∧ l1 ts < 2 ^ c ∧ 0 < a ∧ a * eB b + c + a + 1 ≤ 490000 ∧ ts.length ≤ 16777000 ∧ k (rQ K (wR ps ts))
theorem ok_worth_at {P : Program} {w : World} {K : PySem.W.Frag} {mg : Str → Option Value} {base : Heap} {f : Addr} {fd fd_added fd_multiplied fd_raised : FuncData} (T : Txt K mg) (F : FunD K "worth_at" "worth_at" (defArgs s_worth_at) (defBody s_worth_at) (defScope s_worth_at) [] [] f fd) (c_added : Callee P w K mg base (He.ga K "added") fd_added ["one", "other"] 41 (spOf (S_added P w K))) (c_multiplied : Callee P w K mg base (He.ga K "multiplied") fd_multiplied ["one", "other"] 41 (spOf (S_multiplied P w K))) (c_raised : Callee P w K mg base (He.ga K "raised") fd_raised ["number", "many"] 42 (spOf (S_raised P w K))) (nz0 : ∀ H, SqT K H (He.ga K "ZERO") ([0, 1].map V.int)) :
    FnOk P w K mg base CX0 43 f fd ["poly", "point"] (spOf (S_worth_at P w K)) := by
  refine F.ok sc_worth_at (len_of (by intro rs k h; first | (obtain ⟨e, _⟩ := h; subst e; exact rfl) | (obtain ⟨_, e, _⟩ := h; subst e; exact rfl) | (obtain ⟨_, _, e, _⟩ := h; subst e; exact rfl) | (obtain ⟨_, _, _, e, _⟩ := h; subst e; exact rfl) | (obtain ⟨_, _, _, _, e, _⟩ := h; subst e; exact rfl) | (obtain ⟨_, _, _, _, _, e, _⟩ := h; subst e; exact rfl) | (obtain ⟨_, _, _, _, _, _, e, _⟩ := h; subst e; exact rfl) | (obtain ⟨_, _, _, _, _, _, _, e, _⟩ := h; subst e; exact rfl) | (obtain ⟨_, _, _, _, _, _, _, _, e, _⟩ := h; subst e; exact rfl) | (obtain ⟨_, _, _, _, _, _, _, _, _, e, _⟩ := h; subst e; exact rfl) | (obtain ⟨_, _, _, _, _, _, _, _, _, _, e, _⟩ := h; subst e; exact rfl) | (obtain ⟨_, _, _, _, _, _, _, _, _, _, _, e, _⟩ := h; subst e; exact rfl) | (obtain ⟨_, _, _, _, _, _, _, _, _, _, _, _, e, _⟩ := h; subst e; exact rfl))) (fun cdv A outer s H vs Q E hr h => ?_)
  
  refine ⟨_, PSs.nox (pss_cons (ps_set (i := 2) sc_worth_at.nd rfl (by first | exact Or.inl rfl | exact Or.inr rfl) (pe_glob (v := .ref (He.ga K "ZERO")) rfl T.c_ZERO rfl)) (pss_cons (ps_for PassesOwn.never rfl (q_tup (K := K) rfl (q_fld (K := K) rfl (pv 0) rfl)) (q_gtup (K := K) rfl rfl (pgs_cons (pg_name (i := 3) sc_worth_at.nd rfl (by first | exact Or.inl rfl | exact Or.inr rfl)) (pgs_cons (pg_name (i := 4) sc_worth_at.nd rfl (by first | exact Or.inl rfl | exact Or.inr rfl)) pgs_nil))) (pss_cons (ps_set (i := 5) sc_worth_at.nd rfl (by first | exact Or.inl rfl | exact Or.inr rfl) (pe_tup (pa_cons (pv 4) (pa_cons pe_int pa_nil)))) (pss_cons (ps_for PassesOwn.never rfl (q_zipT (K := K) rfl rfl T.b_zip (pa_cons (pv 1) (pa_cons (pv 3) pa_nil))) (q_gtup (K := K) rfl rfl (pgs_cons (pg_name (i := 6) sc_worth_at.nd rfl (by first | exact Or.inl rfl | exact Or.inr rfl)) (pgs_cons (pg_name (i := 7) sc_worth_at.nd rfl (by first | exact Or.inl rfl | exact Or.inr rfl)) pgs_nil))) (pss_cons (ps_set (i := 5) sc_worth_at.nd rfl (by first | exact Or.inl rfl | exact Or.inr rfl) (pe_call (c_multiplied.F.mono (by decide)) hr rfl T.g_multiplied c_multiplied.kp c_multiplied.b .nil pass0 (pa_cons (pv 5) (pa_cons (pe_call (c_raised.F.mono (by decide)) hr rfl T.g_raised c_raised.kp c_raised.b .nil pass0 (pa_cons (pv 6) (pa_cons (pv 7) pa_nil))) pa_nil)))) pss_nil)) (pss_cons (ps_set (i := 2) sc_worth_at.nd rfl (by first | exact Or.inl rfl | exact Or.inr rfl) (pe_call (c_added.F.mono (by decide)) hr rfl T.g_added c_added.kp c_added.b .nil pass0 (pa_cons (pv 2) (pa_cons (pv 5) pa_nil)))) pss_nil)))) (pss_cons (ps_ret (pv 2)) pss_nil))), ?_⟩
  refine read_of P w K h rfl fun rs k D hs hD hN => ?_
  obtain ⟨C, ts, b, ps, a, c, rfl, hC, hb, hp, hc, ha, hn, hz, hk⟩ := hs
  ((first | refine ws_asg ?_ | refine ws_asgG ?_))
  refine we_cr (rKey K [0, 1]) (fun H _ => rKey_of (nz0 H)) ?_
  refine ws_forF ts (g := fun t => rTup K [rKey K t.1, rInt t.2]) (0 : Rat) (fun q t => q + (t.2 : Rat) * mw ps t.1) (fun q => [.im (rPT K C ts), .im (rTup K (ps.map (rQ K))), .im (rQ K q), .no, .no, .no, .no, .no]) ?_
  (refine wi_tup ?_; refine we_fld ?_; refine we_var rfl ?_)
  refine ⟨C, _, rTms K ts, rfl, hC.cl, hC.na, rfl, _, rfl, by rw [List.length_map], fun i hi => getD_map hi, by (repeat' (first | exact Weak.nil | apply Weak.eq | apply Weak.no)), fun i hi G st => ?_, ?_⟩
  · rw [wR_fold, Rat.zero_add]
    have hin := hb _ (List.getElem_mem hi)
    have h4 := hin.len
    have hcount : (ts[i].2).natAbs < 2 ^ c := Nat.lt_of_le_of_lt (l1_mem (List.getElem_mem hi)) hc
    have q0 : QB (a * eB b + c + 1) (wR ps (ts.take i)) := wR_qb hp (fun e he => hb e (List.mem_of_mem_take he)) (Nat.lt_of_le_of_lt (l1_take ts i) hc)
    refine ⟨_, _, wg_tup rfl (wgs_cons wg_name (wgs_cons wg_name wgs_nil)), ?_⟩
    ((first | refine ws_asg ?_ | refine ws_asgG ?_); refine we_tup ?_; refine wa_cons ?_; refine we_var rfl ?_; refine wa_cons ?_; refine we_c ?_; refine wa_nil ?_; refine ⟨Nat.le_of_ble_eq_true rfl, ?_⟩)
    refine ws_forP (List.range 4) (g := fun j => rTup K [rQ K (ps.getD j 0), rInt (ts[i].1.getD j 0)]) (fun j q => q = (ts[i].2 : Rat) * pm ps ts[i].1 j) (ts[i].2 : Rat) (fun q => [.im (rPT K C ts), .im (rTup K (ps.map (rQ K))), .im (rQ K (wR ps (ts.take i))), .im (rKey K ts[i].1), .im (rInt ts[i].2), .im (rQ K q), .no, .no]) ?_
    refine wi_zipT ?_
    (refine wa_cons ?_; refine we_var rfl ?_; refine wa_cons ?_; refine we_var rfl ?_; refine wa_nil ?_)
    refine ⟨_, _, rfl, by rw [List.length_map, List.length_map, hp.len, h4]; rfl, fun j hj => ?_, by (repeat' (first | exact Weak.nil | apply Weak.eq | apply Weak.no)), (Rat.mul_one _).symm, fun j hj q hq G' st' => ?_, fun q hq => ?_⟩
    · rw [List.getElem_range]
      have hj4 : j < 4 := by rw [List.length_range] at hj; exact hj
      have j1 : j < ps.length := by rw [hp.len]; exact hj4
      have j2 : j < ts[i].1.length := by rw [h4]; exact hj4
      show rTup K [_, _] = _
      rw [List.getD_eq_getElem?_getD, List.getElem?_map, List.getElem?_eq_getElem j1, List.getD_eq_getElem?_getD, List.getElem?_map, List.getElem?_eq_getElem j2, List.getD_eq_getElem?_getD, List.getElem?_eq_getElem j1, List.getD_eq_getElem?_getD, List.getElem?_eq_getElem j2]
      rfl
    · rw [List.getElem_range]
      have hj4 : j < 4 := by rw [List.length_range] at hj; exact hj
      obtain ⟨n0, n1⟩ := (in_at.mp hin).2 j hj4
      have nb : b.at j ≤ eB b := by have := sB_le b (j := j + 1) (by omega); have e : sB b (j + 1) = sB b j + b.at j := rfl; omega
      obtain ⟨x, hx⟩ : ∃ x : Nat, ts[i].1.getD j 0 = x := ⟨_, (Int.toNat_of_nonneg n0).symm⟩
      have hxb : x ≤ eB b := by omega
      have hax : a * (x + 1) ≤ a * eB b + a := by rw [Nat.mul_succ]; exact Nat.add_le_add_right (Nat.mul_le_mul_left a hxb) a
      subst hq
      refine ⟨_, _, wg_tup rfl (wgs_cons wg_name (wgs_cons wg_name wgs_nil)), ?_⟩
      ((first | refine ws_asg ?_ | refine ws_asgG ?_); refine we_call ?_; refine wa_cons ?_; refine we_var rfl ?_; refine wa_cons ?_; refine we_call ?_; refine wa_cons ?_; refine we_var rfl ?_; refine wa_cons ?_; refine we_var rfl ?_; refine wa_nil ?_)
      refine ⟨ps.getD j 0, x, a, by rw [hx], hp.at hj4, ha, by omega, ?_⟩
      have q1 := pm_qb (a := a) hp hin hcount (j := j) (by omega)
      have q2 := (show QB a (ps.getD j 0) from hp.at hj4)
      have q3 : QB (a * eB b + c + a + 1) (ps.getD j 0 ^ x) := by
        by_cases h : x = 0
        · subst h
          rw [show ps.getD j 0 ^ 0 = (1 : Rat) by grind]
          exact ⟨Nat.one_lt_two_pow (by omega), Nat.one_lt_two_pow (by omega)⟩
        · exact (q2.pow (by omega : 0 < x)).mono (by have := Nat.mul_le_mul_left a hxb; omega)
      (refine wa_nil ?_)
      refine ⟨_, _, _, rfl, q1.mono (by omega), q3, by omega, hn, ?_⟩
      skip
      refine ws_nextI rfl _ ?_ (by (repeat' (first | exact Weak.nil | apply Weak.eq | apply Weak.no)))
      show _ = (ts[i].2 : Rat) * (pm ps ts[i].1 j * ps.getD j 0 ^ (ts[i].1.getD j 0).toNat)
      rw [hx, Int.toNat_natCast, Rat.mul_assoc]
    · rw [List.length_range, pm_mw] at hq
      subst hq
      have q1 := pm_qb (a := a) hp hin hcount (j := 4) (by omega)
      rw [pm_mw] at q1
      ((first | refine ws_asg ?_ | refine ws_asgG ?_); refine we_call ?_; refine wa_cons ?_; refine we_var rfl ?_; refine wa_cons ?_; refine we_var rfl ?_; refine wa_nil ?_)
      refine ⟨_, _, _, rfl, q0, q1, by omega, by omega, ?_⟩
      skip
      exact ws_nextW rfl (by (repeat' (first | exact Weak.nil | apply Weak.eq | apply Weak.no)))
  · rw [wR_fold, Rat.zero_add]
    (refine ws_retS (by assumption) ?_; refine we_var rfl ?_)
    exact hk
end Lw
set_option Elab.async false
set_option linter.all false
set_option maxRecDepth 100000
set_option maxHeartbeats 1000000
namespace Lw
open PySem PySem.Spec PyProof.Rows L2 BX
theorem nodup_sub {α : Type} [DecidableEq α] : ∀ (l m : List α), l.Nodup → (∀ x, x ∈ l → x ∈ m) → l.length ≤ m.length
  | [], _, _, _ => Nat.zero_le _
  | x :: l, m, nd, h => by
    rw [List.nodup_cons] at nd
    have hx := h x (List.mem_cons_self ..)
    have := nodup_sub l (m.erase x) nd.2 fun y hy => by
      refine (List.mem_erase_of_ne fun z => nd.1 (by rw [← z]; exact hy)).mpr (h y (List.mem_cons_of_mem _ hy))
    rw [List.length_erase_of_mem hx] at this
    have hm : 0 < m.length := List.length_pos_of_mem hx
    show l.length + 1 ≤ m.length
    omega
theorem flat_len' {A B : PT} : (A.flatMap fun a => B.map fun b => add4 a.1 b.1).length = A.length * B.length := by
  induction A with
  | nil => simp
  | cons a L ih => rw [List.flatMap_cons, List.length_append, ih, List.length_map, List.length_cons, Nat.succ_mul]; omega
theorem fit_len {A B : PT} (h : A.length * B.length < sizeLine) : FitM A B := fun m nd hm => by
  have := nodup_sub (m.map (·.1)) (A.flatMap fun a => B.map fun b => add4 a.1 b.1) nd fun x hx => by
    obtain ⟨e, he, rfl⟩ := List.mem_map.mp hx
    obtain ⟨a, ha, b, hb, e1⟩ := hm e he
    exact List.mem_flatMap.mpr ⟨a, ha, List.mem_map.mpr ⟨b, hb, e1.symm⟩⟩
  rw [List.length_map] at this
  rw [flat_len'] at this
  omega
theorem mulP_len (A B : PT) : (mulP A B).length ≤ A.length * B.length := by
  obtain ⟨nd, hm⟩ := mulI_all (A := A) (B := B) A fun a h => h
  have := nodup_sub ((mulP A B).map (·.1)) (A.flatMap fun a => B.map fun b => add4 a.1 b.1) nd fun x hx => by
    obtain ⟨e, he, rfl⟩ := List.mem_map.mp hx
    obtain ⟨a, ha, b, hb, e1⟩ := hm e he
    exact List.mem_flatMap.mpr ⟨a, ha, List.mem_map.mpr ⟨b, hb, e1.symm⟩⟩
  rw [List.length_map, flat_len'] at this
  exact this
theorem tm_len (A B : PT) : (tm A B).length ≤ A.length * B.length := Nat.le_trans (canon_len _) (mulP_len A B)
def S_check_integer (P : Program) (w : World) (K : PySem.W.Frag) : Spc := fun rs k => ∃ i : Int, rs = [rInt i] ∧ k rNon
theorem ok_check_integer {P : Program} {w : World} {K : PySem.W.Frag} {mg : Str → Option Value} {base : Heap} {f : Addr} {fd fd_is_integer : FuncData} (T : Txt K mg) (F : FunD K "check_integer" "check_integer" (defArgs s_check_integer) (defBody s_check_integer) (defScope s_check_integer) [] [] f fd) (c_is_integer : Callee P w K mg base (He.ga K "is_integer") fd_is_integer ["thing"] 1 (spOf (S_is_integer P w K)))  :
    FnOk P w K mg base CX0 2 f fd ["thing"] (spOf (S_check_integer P w K)) := by
  refine F.ok sc_check_integer (len_of (by intro rs k h; first | (obtain ⟨e, _⟩ := h; subst e; exact rfl) | (obtain ⟨_, e, _⟩ := h; subst e; exact rfl) | (obtain ⟨_, _, e, _⟩ := h; subst e; exact rfl) | (obtain ⟨_, _, _, e, _⟩ := h; subst e; exact rfl) | (obtain ⟨_, _, _, _, e, _⟩ := h; subst e; exact rfl) | (obtain ⟨_, _, _, _, _, e, _⟩ := h; subst e; exact rfl) | (obtain ⟨_, _, _, _, _, _, e, _⟩ := h; subst e; exact rfl) | (obtain ⟨_, _, _, _, _, _, _, e, _⟩ := h; subst e; exact rfl) | (obtain ⟨_, _, _, _, _, _, _, _, e, _⟩ := h; subst e; exact rfl) | (obtain ⟨_, _, _, _, _, _, _, _, _, e, _⟩ := h; subst e; exact rfl) | (obtain ⟨_, _, _, _, _, _, _, _, _, _, e, _⟩ := h; subst e; exact rfl) | (obtain ⟨_, _, _, _, _, _, _, _, _, _, _, e, _⟩ := h; subst e; exact rfl) | (obtain ⟨_, _, _, _, _, _, _, _, _, _, _, _, e, _⟩ := h; subst e; exact rfl))) (fun cdv A outer s H vs Q E hr h => ?_)
  
  refine ⟨_, PSs.nox (pss_cons (ps_if (pt_not (pt_val (pe_call (c_is_integer.F.mono (by decide)) hr rfl T.g_is_integer c_is_integer.kp c_is_integer.b .nil pass0 (pa_cons (pv 0) pa_nil)))) (pss_cons ps_no pss_nil) pss_nil) pss_nil), ?_⟩
  refine read_of P w K h rfl fun rs k D hs hD hN => ?_
  obtain ⟨i, rfl, hk⟩ := hs
  (refine ws_if ?_; refine wt_not ?_; refine wt_B ?_; refine we_call ?_; refine wa_cons ?_; refine we_var rfl ?_; refine wa_nil ?_)
  refine ⟨i, rfl, ?_⟩
  (refine ⟨_, rfl, ?_⟩; refine ⟨fun z => Bool.noConfusion (show true = false from by first | exact z | exact z.symm), fun _ => ?_⟩; (first | exact ws_end (by assumption) (by assumption) | refine ws_thru ?_))
def S_check_number (P : Program) (w : World) (K : PySem.W.Frag) : Spc := fun rs k => ∃ i a b : Int, rs = [rInt i, rInt a, rInt b] ∧ (a ≤ i ∧ i ≤ b) ∧ k rNon
theorem ok_check_number {P : Program} {w : World} {K : PySem.W.Frag} {mg : Str → Option Value} {base : Heap} {f : Addr} {fd fd_is_within : FuncData} (T : Txt K mg) (F : FunD K "check_number" "check_number" (defArgs s_check_number) (defBody s_check_number) (defScope s_check_number) [] [] f fd) (c_is_within : Callee P w K mg base (He.ga K "is_within") fd_is_within ["thing", "least", "most"] 2 (spOf (S_is_within P w K)))  :
    FnOk P w K mg base CX0 3 f fd ["thing", "least", "most"] (spOf (S_check_number P w K)) := by
  refine F.ok sc_check_number (len_of (by intro rs k h; first | (obtain ⟨e, _⟩ := h; subst e; exact rfl) | (obtain ⟨_, e, _⟩ := h; subst e; exact rfl) | (obtain ⟨_, _, e, _⟩ := h; subst e; exact rfl) | (obtain ⟨_, _, _, e, _⟩ := h; subst e; exact rfl) | (obtain ⟨_, _, _, _, e, _⟩ := h; subst e; exact rfl) | (obtain ⟨_, _, _, _, _, e, _⟩ := h; subst e; exact rfl) | (obtain ⟨_, _, _, _, _, _, e, _⟩ := h; subst e; exact rfl) | (obtain ⟨_, _, _, _, _, _, _, e, _⟩ := h; subst e; exact rfl) | (obtain ⟨_, _, _, _, _, _, _, _, e, _⟩ := h; subst e; exact rfl) | (obtain ⟨_, _, _, _, _, _, _, _, _, e, _⟩ := h; subst e; exact rfl) | (obtain ⟨_, _, _, _, _, _, _, _, _, _, e, _⟩ := h; subst e; exact rfl) | (obtain ⟨_, _, _, _, _, _, _, _, _, _, _, e, _⟩ := h; subst e; exact rfl) | (obtain ⟨_, _, _, _, _, _, _, _, _, _, _, _, e, _⟩ := h; subst e; exact rfl))) (fun cdv A outer s H vs Q E hr h => ?_)
  
  refine ⟨_, PSs.nox (pss_cons (ps_if (pt_not (pt_val (pe_call (c_is_within.F.mono (by decide)) hr rfl T.g_is_within c_is_within.kp c_is_within.b .nil pass0 (pa_cons (pv 0) (pa_cons (pv 1) (pa_cons (pv 2) pa_nil)))))) (pss_cons ps_no pss_nil) pss_nil) pss_nil), ?_⟩
  refine read_of P w K h rfl fun rs k D hs hD hN => ?_
  obtain ⟨i, a, b, rfl, hi, hk⟩ := hs
  (refine ws_if ?_; refine wt_not ?_; refine wt_B ?_; refine we_call ?_; refine wa_cons ?_; refine we_var rfl ?_; refine wa_cons ?_; refine we_var rfl ?_; refine wa_cons ?_; refine we_var rfl ?_; refine wa_nil ?_)
  refine ⟨_, _, _, rfl, ?_⟩
  rw [decide_eq_true hi.1, decide_eq_true hi.2]
  refine ⟨_, rfl, fun z => Bool.noConfusion (show false = true from z), fun _ => ?_⟩
  ((first | exact ws_end (by assumption) (by assumption) | refine ws_thru ?_))
def S_number_poly (P : Program) (w : World) (K : PySem.W.Frag) : Spc := S_constant P w K
theorem ok_number_poly {P : Program} {w : World} {K : PySem.W.Frag} {mg : Str → Option Value} {base : Heap} {f : Addr} {fd fd_constant fd_check_integer : FuncData} (T : Txt K mg) (F : FunD K "number_poly" "number_poly" (defArgs s_number_poly) (defBody s_number_poly) (defScope s_number_poly) [] [] f fd) (c_constant : Callee P w K mg base (He.ga K "constant") fd_constant ["number"] 4 (spOf (S_constant P w K))) (c_check_integer : Callee P w K mg base (He.ga K "check_integer") fd_check_integer ["thing"] 2 (spOf (S_check_integer P w K)))  :
    FnOk P w K mg base CX0 5 f fd ["number"] (spOf (S_number_poly P w K)) := by
  refine F.ok sc_number_poly (len_of (by intro rs k h; first | (obtain ⟨e, _⟩ := h; subst e; exact rfl) | (obtain ⟨_, e, _⟩ := h; subst e; exact rfl) | (obtain ⟨_, _, e, _⟩ := h; subst e; exact rfl) | (obtain ⟨_, _, _, e, _⟩ := h; subst e; exact rfl) | (obtain ⟨_, _, _, _, e, _⟩ := h; subst e; exact rfl) | (obtain ⟨_, _, _, _, _, e, _⟩ := h; subst e; exact rfl) | (obtain ⟨_, _, _, _, _, _, e, _⟩ := h; subst e; exact rfl) | (obtain ⟨_, _, _, _, _, _, _, e, _⟩ := h; subst e; exact rfl) | (obtain ⟨_, _, _, _, _, _, _, _, e, _⟩ := h; subst e; exact rfl) | (obtain ⟨_, _, _, _, _, _, _, _, _, e, _⟩ := h; subst e; exact rfl) | (obtain ⟨_, _, _, _, _, _, _, _, _, _, e, _⟩ := h; subst e; exact rfl) | (obtain ⟨_, _, _, _, _, _, _, _, _, _, _, e, _⟩ := h; subst e; exact rfl) | (obtain ⟨_, _, _, _, _, _, _, _, _, _, _, _, e, _⟩ := h; subst e; exact rfl))) (fun cdv A outer s H vs Q E hr h => ?_)
  
  refine ⟨_, PSs.nox (pss_cons (ps_expr (pe_call (c_check_integer.F.mono (by decide)) hr rfl T.g_check_integer c_check_integer.kp c_check_integer.b .nil pass0 (pa_cons (pv 0) pa_nil))) (pss_cons (ps_ret (pe_call (c_constant.F.mono (by decide)) hr rfl T.g_constant c_constant.kp c_constant.b .nil pass0 (pa_cons (pv 0) pa_nil))) pss_nil)), ?_⟩
  refine read_of P w K h rfl fun rs k D hs hD hN => ?_
  obtain ⟨c, rfl, hk⟩ := hs
  ((first | refine ws_app rfl ?_ | refine ws_drop ?_); refine we_call ?_; refine wa_cons ?_; refine we_var rfl ?_; refine wa_nil ?_)
  refine ⟨c, rfl, ?_⟩
  (refine ws_retS (by assumption) ?_; refine we_call ?_; refine wa_cons ?_; refine we_var rfl ?_; refine wa_nil ?_)
  exact ⟨c, rfl, hk⟩
def S_unknown_poly (P : Program) (w : World) (K : PySem.W.Frag) : Spc := fun rs k => ∃ i : Nat, rs = [rInt (i : Int)] ∧ i < 4 ∧ k (rPT K (CR K) (canon [(pwOf i 1, 1)]))
theorem ok_unknown_poly {P : Program} {w : World} {K : PySem.W.Frag} {mg : Str → Option Value} {base : Heap} {f : Addr} {fd fd_unknown_power fd_check_unknown : FuncData} (T : Txt K mg) (F : FunD K "unknown_poly" "unknown_poly" (defArgs s_unknown_poly) (defBody s_unknown_poly) (defScope s_unknown_poly) [] [] f fd) (c_unknown_power : Callee P w K mg base (He.ga K "unknown_power") fd_unknown_power ["k", "many"] 4 (spOf (S_unknown_power P w K))) (c_check_unknown : Callee P w K mg base (He.ga K "check_unknown") fd_check_unknown ["thing"] 3 (spOf (S_check_unknown P w K)))  :
    FnOk P w K mg base CX0 5 f fd ["k"] (spOf (S_unknown_poly P w K)) := by
  refine F.ok sc_unknown_poly (len_of (by intro rs k h; first | (obtain ⟨e, _⟩ := h; subst e; exact rfl) | (obtain ⟨_, e, _⟩ := h; subst e; exact rfl) | (obtain ⟨_, _, e, _⟩ := h; subst e; exact rfl) | (obtain ⟨_, _, _, e, _⟩ := h; subst e; exact rfl) | (obtain ⟨_, _, _, _, e, _⟩ := h; subst e; exact rfl) | (obtain ⟨_, _, _, _, _, e, _⟩ := h; subst e; exact rfl) | (obtain ⟨_, _, _, _, _, _, e, _⟩ := h; subst e; exact rfl) | (obtain ⟨_, _, _, _, _, _, _, e, _⟩ := h; subst e; exact rfl) | (obtain ⟨_, _, _, _, _, _, _, _, e, _⟩ := h; subst e; exact rfl) | (obtain ⟨_, _, _, _, _, _, _, _, _, e, _⟩ := h; subst e; exact rfl) | (obtain ⟨_, _, _, _, _, _, _, _, _, _, e, _⟩ := h; subst e; exact rfl) | (obtain ⟨_, _, _, _, _, _, _, _, _, _, _, e, _⟩ := h; subst e; exact rfl) | (obtain ⟨_, _, _, _, _, _, _, _, _, _, _, _, e, _⟩ := h; subst e; exact rfl))) (fun cdv A outer s H vs Q E hr h => ?_)
  
  refine ⟨_, PSs.nox (pss_cons (ps_expr (pe_call (c_check_unknown.F.mono (by decide)) hr rfl T.g_check_unknown c_check_unknown.kp c_check_unknown.b .nil pass0 (pa_cons (pv 0) pa_nil))) (pss_cons (ps_ret (pe_call (c_unknown_power.F.mono (by decide)) hr rfl T.g_unknown_power c_unknown_power.kp c_unknown_power.b .nil pass0 (pa_cons (pv 0) (pa_cons pe_int pa_nil)))) pss_nil)), ?_⟩
  refine read_of P w K h rfl fun rs k D hs hD hN => ?_
  obtain ⟨i, rfl, hi, hk⟩ := hs
  ((first | refine ws_app rfl ?_ | refine ws_drop ?_); refine we_call ?_; refine wa_cons ?_; refine we_var rfl ?_; refine wa_nil ?_)
  refine ⟨i, rfl, by omega, ?_⟩
  (refine ws_retS (by assumption) ?_; refine we_call ?_; refine wa_cons ?_; refine we_var rfl ?_; refine wa_cons ?_; refine we_c ?_; refine wa_nil ?_)
  exact ⟨i, 1, rfl, hk⟩
def S_degree (P : Program) (w : World) (K : PySem.W.Frag) : Spc := S_degree_by P w K
theorem ok_degree {P : Program} {w : World} {K : PySem.W.Frag} {mg : Str → Option Value} {base : Heap} {f : Addr} {fd fd_degree_by fd_check_unknown : FuncData} (T : Txt K mg) (F : FunD K "degree" "degree" (defArgs s_degree) (defBody s_degree) (defScope s_degree) [] [] f fd) (c_degree_by : Callee P w K mg base (He.ga K "degree_by") fd_degree_by ["poly", "k"] 1 (spOf (S_degree_by P w K))) (c_check_unknown : Callee P w K mg base (He.ga K "check_unknown") fd_check_unknown ["thing"] 3 (spOf (S_check_unknown P w K)))  :
    FnOk P w K mg base CX0 4 f fd ["poly", "k"] (spOf (S_degree P w K)) := by
  refine F.ok sc_degree (len_of (by intro rs k h; first | (obtain ⟨e, _⟩ := h; subst e; exact rfl) | (obtain ⟨_, e, _⟩ := h; subst e; exact rfl) | (obtain ⟨_, _, e, _⟩ := h; subst e; exact rfl) | (obtain ⟨_, _, _, e, _⟩ := h; subst e; exact rfl) | (obtain ⟨_, _, _, _, e, _⟩ := h; subst e; exact rfl) | (obtain ⟨_, _, _, _, _, e, _⟩ := h; subst e; exact rfl) | (obtain ⟨_, _, _, _, _, _, e, _⟩ := h; subst e; exact rfl) | (obtain ⟨_, _, _, _, _, _, _, e, _⟩ := h; subst e; exact rfl) | (obtain ⟨_, _, _, _, _, _, _, _, e, _⟩ := h; subst e; exact rfl) | (obtain ⟨_, _, _, _, _, _, _, _, _, e, _⟩ := h; subst e; exact rfl) | (obtain ⟨_, _, _, _, _, _, _, _, _, _, e, _⟩ := h; subst e; exact rfl) | (obtain ⟨_, _, _, _, _, _, _, _, _, _, _, e, _⟩ := h; subst e; exact rfl) | (obtain ⟨_, _, _, _, _, _, _, _, _, _, _, _, e, _⟩ := h; subst e; exact rfl))) (fun cdv A outer s H vs Q E hr h => ?_)
  
  refine ⟨_, PSs.nox (pss_cons (ps_expr (pe_call (c_check_unknown.F.mono (by decide)) hr rfl T.g_check_unknown c_check_unknown.kp c_check_unknown.b .nil pass0 (pa_cons (pv 1) pa_nil))) (pss_cons (ps_ret (pe_call (c_degree_by.F.mono (by decide)) hr rfl T.g_degree_by c_degree_by.kp c_degree_by.b .nil pass0 (pa_cons (pv 0) (pa_cons (pv 1) pa_nil)))) pss_nil)), ?_⟩
  refine read_of P w K h rfl fun rs k D hs hD hN => ?_
  obtain ⟨C, A', b, i, rfl, hC, hA, hi, hz, hk⟩ := hs
  ((first | refine ws_app rfl ?_ | refine ws_drop ?_); refine we_call ?_; refine wa_cons ?_; refine we_var rfl ?_; refine wa_nil ?_)
  refine ⟨i, rfl, by omega, ?_⟩
  (refine ws_retS (by assumption) ?_; refine we_call ?_; refine wa_cons ?_; refine we_var rfl ?_; refine wa_cons ?_; refine we_var rfl ?_; refine wa_nil ?_)
  exact ⟨C, A', b, i, rfl, hC, hA, hi, hz, hk⟩
def S_lead (P : Program) (w : World) (K : PySem.W.Frag) : Spc := S_lead_by P w K
theorem ok_lead {P : Program} {w : World} {K : PySem.W.Frag} {mg : Str → Option Value} {base : Heap} {f : Addr} {fd fd_lead_by fd_check_unknown : FuncData} (T : Txt K mg) (F : FunD K "lead" "lead" (defArgs s_lead) (defBody s_lead) (defScope s_lead) [] [] f fd) (c_lead_by : Callee P w K mg base (He.ga K "lead_by") fd_lead_by ["poly", "k"] 5 (spOf (S_lead_by P w K))) (c_check_unknown : Callee P w K mg base (He.ga K "check_unknown") fd_check_unknown ["thing"] 3 (spOf (S_check_unknown P w K)))  :
    FnOk P w K mg base CX0 6 f fd ["poly", "k"] (spOf (S_lead P w K)) := by
  refine F.ok sc_lead (len_of (by intro rs k h; first | (obtain ⟨e, _⟩ := h; subst e; exact rfl) | (obtain ⟨_, e, _⟩ := h; subst e; exact rfl) | (obtain ⟨_, _, e, _⟩ := h; subst e; exact rfl) | (obtain ⟨_, _, _, e, _⟩ := h; subst e; exact rfl) | (obtain ⟨_, _, _, _, e, _⟩ := h; subst e; exact rfl) | (obtain ⟨_, _, _, _, _, e, _⟩ := h; subst e; exact rfl) | (obtain ⟨_, _, _, _, _, _, e, _⟩ := h; subst e; exact rfl) | (obtain ⟨_, _, _, _, _, _, _, e, _⟩ := h; subst e; exact rfl) | (obtain ⟨_, _, _, _, _, _, _, _, e, _⟩ := h; subst e; exact rfl) | (obtain ⟨_, _, _, _, _, _, _, _, _, e, _⟩ := h; subst e; exact rfl) | (obtain ⟨_, _, _, _, _, _, _, _, _, _, e, _⟩ := h; subst e; exact rfl) | (obtain ⟨_, _, _, _, _, _, _, _, _, _, _, e, _⟩ := h; subst e; exact rfl) | (obtain ⟨_, _, _, _, _, _, _, _, _, _, _, _, e, _⟩ := h; subst e; exact rfl))) (fun cdv A outer s H vs Q E hr h => ?_)
  
  refine ⟨_, PSs.nox (pss_cons (ps_expr (pe_call (c_check_unknown.F.mono (by decide)) hr rfl T.g_check_unknown c_check_unknown.kp c_check_unknown.b .nil pass0 (pa_cons (pv 1) pa_nil))) (pss_cons (ps_ret (pe_call (c_lead_by.F.mono (by decide)) hr rfl T.g_lead_by c_lead_by.kp c_lead_by.b .nil pass0 (pa_cons (pv 0) (pa_cons (pv 1) pa_nil)))) pss_nil)), ?_⟩
  refine read_of P w K h rfl fun rs k D hs hD hN => ?_
  obtain ⟨C, A', b, i, rfl, hC, hA, hi, hz, hd, hk⟩ := hs
  ((first | refine ws_app rfl ?_ | refine ws_drop ?_); refine we_call ?_; refine wa_cons ?_; refine we_var rfl ?_; refine wa_nil ?_)
  refine ⟨i, rfl, by omega, ?_⟩
  (refine ws_retS (by assumption) ?_; refine we_call ?_; refine wa_cons ?_; refine we_var rfl ?_; refine wa_cons ?_; refine we_var rfl ?_; refine wa_nil ?_)
  exact ⟨C, A', b, i, rfl, hC, hA, hi, hz, hd, hk⟩
def S_worth (P : Program) (w : World) (K : PySem.W.Frag) : Spc := S_worth_at P w K
theorem ok_worth {P : Program} {w : World} {K : PySem.W.Frag} {mg : Str → Option Value} {base : Heap} {f : Addr} {fd fd_worth_at fd_is_fraction : FuncData} (T : Txt K mg) (F : FunD K "worth" "worth" (defArgs s_worth) (defBody s_worth) (defScope s_worth) [] [] f fd) (c_worth_at : Callee P w K mg base (He.ga K "worth_at") fd_worth_at ["poly", "point"] 43 (spOf (S_worth_at P w K))) (c_is_fraction : Callee P w K mg base (He.ga K "is_fraction") fd_is_fraction ["thing"] 2 (spOf (S_is_fraction P w K)))  :
    FnOk P w K mg base CX0 44 f fd ["poly", "point"] (spOf (S_worth P w K)) := by
  refine F.ok sc_worth (len_of (by intro rs k h; first | (obtain ⟨e, _⟩ := h; subst e; exact rfl) | (obtain ⟨_, e, _⟩ := h; subst e; exact rfl) | (obtain ⟨_, _, e, _⟩ := h; subst e; exact rfl) | (obtain ⟨_, _, _, e, _⟩ := h; subst e; exact rfl) | (obtain ⟨_, _, _, _, e, _⟩ := h; subst e; exact rfl) | (obtain ⟨_, _, _, _, _, e, _⟩ := h; subst e; exact rfl) | (obtain ⟨_, _, _, _, _, _, e, _⟩ := h; subst e; exact rfl) | (obtain ⟨_, _, _, _, _, _, _, e, _⟩ := h; subst e; exact rfl) | (obtain ⟨_, _, _, _, _, _, _, _, e, _⟩ := h; subst e; exact rfl) | (obtain ⟨_, _, _, _, _, _, _, _, _, e, _⟩ := h; subst e; exact rfl) | (obtain ⟨_, _, _, _, _, _, _, _, _, _, e, _⟩ := h; subst e; exact rfl) | (obtain ⟨_, _, _, _, _, _, _, _, _, _, _, e, _⟩ := h; subst e; exact rfl) | (obtain ⟨_, _, _, _, _, _, _, _, _, _, _, _, e, _⟩ := h; subst e; exact rfl))) (fun cdv A outer s H vs Q E hr h => ?_)
  
  refine ⟨_, PSs.nox (pss_cons (ps_if (PW.pt (pw_or (pt_not (pt_val (pe_callB (k_isi (P := P) (w := w) (K := K) rfl rfl rfl) rfl T.b_isinstance boot_isinstance (pa_cons (pv 1) (pa_cons (pe_bltn (v := .ty "tuple") rfl T.b_tuple boot_tuple rfl) pa_nil))))) (pw_or (pt_cmpR op_ne (pe_callB (k_len (K := K) rfl) rfl T.b_len boot_len (pa_cons (pv 1) pa_nil)) (pe_glob (v := .int 4) rfl T.c_UNKNOWNS.choose_spec ⟨_, rfl⟩) (nomark _)) (pw_or1 (pt_not (pt_val (pe_callB (k_all (K := K) rfl rfl) rfl T.b_all boot_all (pa_cons (pe_frz (pe_lc (own := [("place", 2)]) (g := gName 2) (tt := tYes) rfl sc_worth.nd (q_tup (K := K) rfl (pv 1)) (blkOk_by (own := [("place", 2)]) (N := ["poly", "point", "place"]) (sc := defScope s_worth) (by decide +kernel)) (fun _ _ _ _ _ => (pg_name (i := 2) sc_worth.nd rfl (by first | exact Or.inl rfl | exact Or.inr rfl))) (fun _ _ _ _ _ => pts_nil) (fun _ _ _ _ _ => (pe_call (c_is_fraction.F.mono (by decide)) hr rfl T.g_is_fraction c_is_fraction.kp c_is_fraction.b .nil pass0 (pa_cons (pv 2) pa_nil))))) pa_nil)))))))) (pss_cons ps_no pss_nil) pss_nil) (pss_cons (ps_ret (pe_call (c_worth_at.F.mono (by decide)) hr rfl T.g_worth_at c_worth_at.kp c_worth_at.b .nil pass0 (pa_cons (pv 0) (pa_cons (pv 1) pa_nil)))) pss_nil)), ?_⟩
  refine read_of P w K h rfl fun rs k D hs hD hN => ?_
  obtain ⟨C, ts, b, ps, a, c, rfl, hC, hb, hp, hc, ha, hn, hz, hk⟩ := hs
  (refine ws_if ?_; refine wt_or ?_; refine wt_not ?_; refine wt_B ?_; (first | refine we_cb ?_ | refine we_xlen ?_); refine wa_cons ?_; refine we_var rfl ?_; refine wa_cons ?_; refine we_c ?_; refine wa_nil ?_)
  refine ct_isi ty_tup (.ty _) (k_tt _) ?_
  (refine ⟨_, rfl, ?_⟩; refine ⟨fun z => Bool.noConfusion (show true = false from by first | exact z | exact z.symm), fun _ => ?_⟩; refine wt_or ?_; refine wt_test ?_; refine we_op ?_; (first | refine we_cb ?_ | refine we_xlen ?_); refine wa_cons ?_; refine we_var rfl ?_; refine wa_nil ?_; (first | refine ct_lenT ?_ | refine ct_lenL ?_); refine we_c ?_; refine ot_ne rfl ?_; refine ⟨_, rfl, ?_⟩)
  refine ⟨fun z => absurd z (by simp [hp.len]), fun _ => ?_⟩
  (refine wt_not ?_; refine wt_B ?_; (first | refine we_cb ?_ | refine we_xlen ?_); refine wa_cons ?_; refine we_frzL ?_)
  refine wl_lcM ps (g := rQ K) (h := fun _ => rBl true) ?_
  (refine wi_tup ?_; refine we_var rfl ?_; refine ⟨_, rfl, ?_⟩)
  refine ⟨by rw [List.length_map], fun i hi => getD_map hi, by rw [hp.len]; decide, fun q hq G st => ?_, ?_⟩
  · refine ⟨_, _, ?_, wg_name, ?_⟩
    · intro j hj; exact hj
    · (refine we_call ?_; refine wa_cons ?_; refine we_var rfl ?_; refine wa_nil ?_)
      exact ⟨q, rfl, rfl⟩
  (refine wa_nil ?_)
  refine ct_allE (ps.map fun _ => true) (by rw [List.map_map]; rfl) ?_
  rw [show (ps.map fun _ => true).all id = true by rw [List.all_map]; exact List.all_eq_true.mpr fun _ _ => rfl]
  (refine ⟨_, rfl, ?_⟩; refine ⟨fun z => Bool.noConfusion (show true = false from by first | exact z | exact z.symm), fun _ => ?_⟩; (first | exact ws_end (by assumption) (by assumption) | refine ws_thru ?_); refine ws_retS (by assumption) ?_; refine we_call ?_; refine wa_cons ?_; refine we_var rfl ?_; refine wa_cons ?_; refine we_var rfl ?_; refine wa_nil ?_)
  exact ⟨C, ts, b, ps, a, c, rfl, hC, hb, hp, hc, ha, hn, hz, hk⟩
/-- the greatest unknown of a table -/
def topL (A : PT) : Nat → Option Nat
  | 0 => none
  | j + 1 => if 0 < degP A j then some j else topL A j
def rTop : Option Nat → Rel
  | none => rNon
  | some i => rInt (i : Int)
theorem deg_any {b : B4} {A : PT} (hA : Bx b A) {j : Nat} (hj : j < 4) : (A.map fun t => decide (0 < t.1.getD j 0)).any id = decide (0 < degP A j) := by
  rw [Bool.eq_iff_iff, List.any_map, List.any_eq_true, decide_eq_true_iff]
  constructor
  · rintro ⟨t, ht, h⟩
    have h' : 0 < t.1.getD j 0 := of_decide_eq_true h
    have := degP_mem ht j
    omega
  · intro h
    refine Classical.byContradiction fun hn => ?_
    have : degP A j ≤ 0 := degP_le fun t ht => by
      have h0 := ((in_at.mp (hA t ht)).2 j hj).1
      have : ¬ 0 < t.1.getD j 0 := fun z => hn ⟨t, ht, decide_eq_true z⟩
      omega
    omega
def S_top (P : Program) (w : World) (K : PySem.W.Frag) : Spc := fun rs k => ∃ (C : Addr) (A : PT) (b : B4), rs = [rPT K C A] ∧ PolyC K C ∧ Bx b A ∧ A.length ≤ 16777000 ∧ k (rTop (topL A 4))
theorem ok_top {P : Program} {w : World} {K : PySem.W.Frag} {mg : Str → Option Value} {base : Heap} {f : Addr} {fd : FuncData} (T : Txt K mg) (F : FunD K "top" "top" (defArgs s_top) (defBody s_top) (defScope s_top) [] [] f fd)   :
    FnOk P w K mg base CX0 1 f fd ["poly"] (spOf (S_top P w K)) := by
  refine F.ok sc_top (len_of (by intro rs k h; first | (obtain ⟨e, _⟩ := h; subst e; exact rfl) | (obtain ⟨_, e, _⟩ := h; subst e; exact rfl) | (obtain ⟨_, _, e, _⟩ := h; subst e; exact rfl) | (obtain ⟨_, _, _, e, _⟩ := h; subst e; exact rfl) | (obtain ⟨_, _, _, _, e, _⟩ := h; subst e; exact rfl) | (obtain ⟨_, _, _, _, _, e, _⟩ := h; subst e; exact rfl) | (obtain ⟨_, _, _, _, _, _, e, _⟩ := h; subst e; exact rfl) | (obtain ⟨_, _, _, _, _, _, _, e, _⟩ := h; subst e; exact rfl) | (obtain ⟨_, _, _, _, _, _, _, _, e, _⟩ := h; subst e; exact rfl) | (obtain ⟨_, _, _, _, _, _, _, _, _, e, _⟩ := h; subst e; exact rfl) | (obtain ⟨_, _, _, _, _, _, _, _, _, _, e, _⟩ := h; subst e; exact rfl) | (obtain ⟨_, _, _, _, _, _, _, _, _, _, _, e, _⟩ := h; subst e; exact rfl) | (obtain ⟨_, _, _, _, _, _, _, _, _, _, _, _, e, _⟩ := h; subst e; exact rfl))) (fun cdv A outer s H vs Q E hr h => ?_)
  
  refine ⟨_, PSs.nox (pss_cons (ps_set (i := 1) sc_top.nd rfl (by first | exact Or.inl rfl | exact Or.inr rfl) pe_non) (pss_cons (ps_for PassesOwn.never rfl (pi_range1 rfl T.b_range (pa_cons (pe_glob (v := .int 4) rfl T.c_UNKNOWNS.choose_spec ⟨_, rfl⟩) pa_nil)) (pg_name (i := 2) sc_top.nd rfl (by first | exact Or.inl rfl | exact Or.inr rfl)) (pss_cons (ps_if (pt_val (pe_callB (k_any (K := K) rfl rfl) rfl T.b_any boot_any (pa_cons (pe_frz (pe_lc (own := [("powers", 3), ("count", 4)]) (g := gTup K 2 (gCons (gName 3) (gCons (gName 4) gNil))) (tt := tYes) rfl sc_top.nd (q_tup (K := K) rfl (q_fld (K := K) rfl (pv 0) rfl)) (blkOk_by (own := [("powers", 3), ("count", 4)]) (N := ["poly", "found", "k", "powers", "count"]) (sc := defScope s_top) (by decide +kernel)) (fun _ _ _ _ _ => (q_gtup (K := K) rfl rfl (pgs_cons (pg_name (i := 3) sc_top.nd rfl (by first | exact Or.inl rfl | exact Or.inr rfl)) (pgs_cons (pg_name (i := 4) sc_top.nd rfl (by first | exact Or.inl rfl | exact Or.inr rfl)) pgs_nil)))) (fun _ _ _ _ _ => pts_nil) (fun _ _ _ _ _ => (pe_cmpR op_gt (pe_ix (k_ixT (K := K) rfl) (pv 3) (pv 2) (fun _ _ => rfl)) pe_int (nomark _))))) pa_nil))) (pss_cons (ps_set (i := 1) sc_top.nd rfl (by first | exact Or.inl rfl | exact Or.inr rfl) (pv 2)) pss_nil) pss_nil) pss_nil)) (pss_cons (ps_ret (pv 1)) pss_nil))), ?_⟩
  refine read_of P w K h rfl fun rs k D hs hD hN => ?_
  obtain ⟨C, A', b, rfl, hC, hA, hz, hk⟩ := hs
  ((first | refine ws_asg ?_ | refine ws_asgG ?_); refine we_c ?_)
  refine ws_forQ (fun i o => o = topL A' i) (none : Option Nat) (fun o => [.im (rPT K C A'), .im (rTop o), .no, .no, .no]) ?_
  (refine wi_rng1 ?_; refine wa_cons ?_; refine we_c ?_; refine wa_nil ?_; refine ⟨_, rfl, ?_⟩)
  refine ⟨by decide, by decide, by (repeat' (first | exact Weak.nil | apply Weak.eq | apply Weak.no)), rfl, fun j hj o ho G st => ?_, fun o ho => ?_⟩
  · have hj4 : j < 4 := hj
    subst ho
    refine ⟨_, _, wg_name, ?_⟩
    (refine ws_if ?_; refine wt_B ?_; (first | refine we_cb ?_ | refine we_xlen ?_); refine wa_cons ?_; refine we_frzL ?_)
    refine wl_lcM A' (g := fun t => rTup K [rKey K t.1, rInt t.2]) (h := fun t => rBl (decide (0 < t.1.getD j 0))) ?_
    (refine wi_tup ?_; refine we_fld ?_; refine we_var rfl ?_)
    refine ⟨C, _, rTms K A', rfl, hC.cl, hC.na, rfl, _, rfl, by rw [List.length_map], fun i hi => getD_map hi, by rw [sizeLine_eq]; omega, fun t ht G' st' => ?_, ?_⟩
    · refine ⟨_, _, ?_, wg_tup rfl (wgs_cons wg_name (wgs_cons wg_name wgs_nil)), ?_⟩
      · intro j hj; exact hj
      · have := (hA t ht).len
        (refine we_op ?_; refine we_op ?_; refine we_var rfl ?_; refine we_var rfl ?_)
        refine ot_ixT (getD_key (i := j) (by omega)) ?_
        (refine we_c ?_; refine ot_I0 ?_)
        rfl
    (refine wa_nil ?_)
    rw [show (A'.map fun t => rBl (decide (0 < t.1.getD j 0))) = ((A'.map fun t => decide (0 < t.1.getD j 0)).map rBl) by rw [List.map_map]; rfl]
    refine ct_any ?_
    rw [deg_any hA hj4]
    (refine ⟨_, rfl, ?_⟩)
    refine ⟨fun z => ?_, fun z => ?_⟩
    · ((first | refine ws_asg ?_ | refine ws_asgG ?_); refine we_var rfl ?_; (first | exact ws_end (by assumption) (by assumption) | refine ws_thru ?_))
      refine ws_nextI rfl (some j) ?_ (by (repeat' (first | exact Weak.nil | apply Weak.eq | apply Weak.no)))
      show _ = if 0 < degP A' j then some j else topL A' j
      rw [if_pos (of_decide_eq_true z)]
    · skip
      refine ws_nextI rfl (topL A' j) ?_ (by (repeat' (first | exact Weak.nil | apply Weak.eq | apply Weak.no)))
      show _ = if 0 < degP A' j then some j else topL A' j
      rw [if_neg (of_decide_eq_false z)]
  · subst ho
    (refine ws_retS (by assumption) ?_; refine we_var rfl ?_)
    exact hk
end Lw
set_option Elab.async false
set_option linter.all false
set_option maxRecDepth 100000
set_option maxHeartbeats 1000000
namespace Lw
open PySem PySem.Spec PyProof.Rows L2 BX
/-! powers, told by how many terms there are -/
def PwT (T N n : Nat) (f p : PT) : Prop := ∃ i j, i + j * n ≤ N ∧ f.length ≤ T ^ i ∧ p.length ≤ T ^ j
theorem PwT.fp {T N n : Nat} {f p : PT} (hT : 0 < T) (h : PwT T N n f p) (hn : 0 < n) : f.length * p.length ≤ T ^ N := by
  obtain ⟨i, j, h1, h2, h3⟩ := h
  have := Nat.mul_le_mul h2 h3
  rw [← Nat.pow_add] at this
  have h4 : j * 1 ≤ j * n := Nat.mul_le_mul_left j hn
  exact Nat.le_trans this (Nat.pow_le_pow_right hT (by omega))
theorem PwT.pp {T N n : Nat} {f p : PT} (hT : 0 < T) (h : PwT T N n f p) (hn : 1 < n) : p.length * p.length ≤ T ^ N := by
  obtain ⟨i, j, h1, h2, h3⟩ := h
  have := Nat.mul_le_mul h3 h3
  rw [← Nat.pow_add] at this
  have h4 : j * 2 ≤ j * n := Nat.mul_le_mul_left j hn
  exact Nat.le_trans this (Nat.pow_le_pow_right hT (by omega))
theorem PwT.step {T N n : Nat} {f p : PT} (hT : 0 < T) (h : PwT T N n f p) (hn : 0 < n) : PwT T N (n / 2) (if n % 2 = 1 then tm f p else f) (if 1 < n then tm p p else p) := by
  obtain ⟨i, j, h1, h2, h3⟩ := h
  have e1 : (tm f p).length ≤ T ^ (i + j) := by rw [Nat.pow_add]; exact Nat.le_trans (tm_len f p) (Nat.mul_le_mul h2 h3)
  have e2 : (tm p p).length ≤ T ^ (j + j) := by rw [Nat.pow_add]; exact Nat.le_trans (tm_len p p) (Nat.mul_le_mul h3 h3)
  have hh : (j + j) * (n / 2) = j * (2 * (n / 2)) := by rw [← Nat.two_mul, Nat.mul_comm 2 j, Nat.mul_assoc]
  by_cases c : n % 2 = 1
  · rw [if_pos c]
    have en : j * n = j * (2 * (n / 2)) + j := by rw [← Nat.mul_succ]; exact congrArg (j * ·) (by omega)
    by_cases d : 1 < n
    · rw [if_pos d]
      exact ⟨i + j, j + j, by omega, e1, e2⟩
    · rw [if_neg d]
      have e0 : n = 1 := by omega
      subst e0
      exact ⟨i + j, j, by simp at h1 ⊢; omega, e1, h3⟩
  · rw [if_neg c]
    have d : 1 < n := by omega
    have en : j * n = j * (2 * (n / 2)) := congrArg (j * ·) (by omega)
    rw [if_pos d]
    exact ⟨i, j + j, by omega, h2, e2⟩
theorem times_fit {P : Program} {w : World} {K : PySem.W.Frag} {C1 C2 : Addr} {A B : PT} {b c : B4} {n m : Nat} {k : Rel → Prop} (h1 : PolyC K C1) (h2 : PolyC K C2) (hA : PB b n A) (hB : PB c m B) (hf : FitM A B) (hn : n < 2 ^ 450000) (hm : m < 2 ^ 450000)
    (hk : k (rPT K (CR K) (tm A B))) : S_times P w K [rPT K C1 A, rPT K C2 B] k :=
  ⟨C1, C2, A, B, 450000, rfl, h1, h2, bx_ne hA.bx, bx_ne hB.bx, hf, bdP_of hA.l hn, bdP_of hB.l hm, by decide, Nat.le_refl _, hk⟩
def S_power_of2 (P : Program) (w : World) (K : PySem.W.Frag) : Spc := fun rs k => ∃ (C : Addr) (B : PT) (n : Nat) (b : B4) (L T : Nat), rs = [rPT K C B, rInt (n : Int)] ∧ PolyC K C ∧ PolyC K (CR K) ∧ PB b L B ∧ 0 < L ∧ 0 < T ∧ B.length ≤ T ∧ T ^ n ≤ 16777000 ∧ L ^ n < 2 ^ 450000 ∧
  k (rPT K (CR K) (pwL n one4 B n))
theorem ok_power_of {P : Program} {w : World} {K : PySem.W.Frag} {mg : Str → Option Value} {base : Heap} {f : Addr} {fd fd_times fd_constant : FuncData} (T : Txt K mg) (F : FunD K "power_of" "power_of" (defArgs s_power_of) (defBody s_power_of) (defScope s_power_of) [] [] f fd) (c_times : Callee P w K mg base (He.ga K "times") fd_times ["one", "other"] 4 (spOf (S_times P w K))) (c_constant : Callee P w K mg base (He.ga K "constant") fd_constant ["number"] 4 (spOf (S_constant P w K)))  :
    FnOk P w K mg base CX0 5 f fd ["poly", "many"] (spOf (S_power_of2 P w K)) := by
  refine F.ok sc_power_of (len_of (by intro rs k h; first | (obtain ⟨e, _⟩ := h; subst e; exact rfl) | (obtain ⟨_, e, _⟩ := h; subst e; exact rfl) | (obtain ⟨_, _, e, _⟩ := h; subst e; exact rfl) | (obtain ⟨_, _, _, e, _⟩ := h; subst e; exact rfl) | (obtain ⟨_, _, _, _, e, _⟩ := h; subst e; exact rfl) | (obtain ⟨_, _, _, _, _, e, _⟩ := h; subst e; exact rfl) | (obtain ⟨_, _, _, _, _, _, e, _⟩ := h; subst e; exact rfl) | (obtain ⟨_, _, _, _, _, _, _, e, _⟩ := h; subst e; exact rfl) | (obtain ⟨_, _, _, _, _, _, _, _, e, _⟩ := h; subst e; exact rfl) | (obtain ⟨_, _, _, _, _, _, _, _, _, e, _⟩ := h; subst e; exact rfl) | (obtain ⟨_, _, _, _, _, _, _, _, _, _, e, _⟩ := h; subst e; exact rfl) | (obtain ⟨_, _, _, _, _, _, _, _, _, _, _, e, _⟩ := h; subst e; exact rfl) | (obtain ⟨_, _, _, _, _, _, _, _, _, _, _, _, e, _⟩ := h; subst e; exact rfl))) (fun cdv A outer s H vs Q E hr h => ?_)
  
  refine ⟨_, PSs.nox (pss_cons (ps_set (i := 2) sc_power_of.nd rfl (by first | exact Or.inl rfl | exact Or.inr rfl) (pe_call (c_constant.F.mono (by decide)) hr rfl T.g_constant c_constant.kp c_constant.b .nil pass0 (pa_cons pe_int pa_nil))) (pss_cons (ps_while PassesOwn.never (pt_cmpR op_gt (pv 1) pe_int (nomark _)) (pss_cons (ps_if (pt_cmpR op_eq (pe_op op_mod (pv 1) pe_int) pe_int (nomark _)) (pss_cons (ps_set (i := 2) sc_power_of.nd rfl (by first | exact Or.inl rfl | exact Or.inr rfl) (pe_call (c_times.F.mono (by decide)) hr rfl T.g_times c_times.kp c_times.b .nil pass0 (pa_cons (pv 2) (pa_cons (pv 0) pa_nil)))) pss_nil) pss_nil) (pss_cons (ps_set (i := 0) sc_power_of.nd rfl (by first | exact Or.inl rfl | exact Or.inr rfl) (pe_ifExp (pt_cmpR op_gt (pv 1) pe_int (nomark _)) (pe_call (c_times.F.mono (by decide)) hr rfl T.g_times c_times.kp c_times.b .nil pass0 (pa_cons (pv 0) (pa_cons (pv 0) pa_nil))) (pv 0))) (pss_cons (ps_aug (i := 1) sc_power_of.nd rfl (by first | exact Or.inl rfl | exact Or.inr rfl) pe_int ip_fdivN) pss_nil)))) (pss_cons (ps_ret (pv 2)) pss_nil))), ?_⟩
  refine read_of P w K h rfl fun rs k D hs hD hN => ?_
  obtain ⟨C, B', n, b, L, T0, rfl, h1, hR, hB, hL, hT, hBl, hv, hl, hk⟩ := hs
  ((first | refine ws_asg ?_ | refine ws_asgG ?_); refine we_call ?_; refine wa_cons ?_; refine we_c ?_; refine wa_nil ?_)
  refine ⟨1, rfl, ?_⟩
  rw [canon_one]
  refine ws_while (fun m Γ => ∃ (f p : PT) (C : Addr) (i j m' : Nat), Γ = [.im (rPT K C p), .im (rInt (m' : Int)), .im (rPT K (CR K) f)] ∧ PolyC K C ∧ (PwI b L n i j m' f p ∧ PwT T0 n m' f p) ∧ pwL m' f p m' = pwL n one4 B' n ∧ m' ≤ m) n ⟨one4, B', C, 0, 1, n, rfl, h1, ⟨pw0 hB hL, 0, 1, by omega, Nat.le_refl _, by rw [Nat.pow_one]; exact hBl⟩, rfl, Nat.le_refl _⟩ fun m Γ1 hΓ => ?_
  obtain ⟨f, p, C, i, j, m', rfl, hC, ⟨hI, hJ⟩, hr, hm⟩ := hΓ
  (refine wt_test ?_; refine we_op ?_; refine we_var rfl ?_; refine we_c ?_; refine ot_I0 ?_; refine ⟨_, rfl, ?_⟩)
  refine ⟨fun z => ?_, fun z => ?_⟩
  · have h0 : 0 < m' := by have := of_decide_eq_true z; omega
    have lle : ∀ {x : Nat}, x ≤ n → L ^ x < 2 ^ 450000 := fun {x} h => Nat.lt_of_le_of_lt (Nat.pow_le_pow_right hL h) hl
    have fitf : FitM f p := fit_len (by have := hJ.fp hT h0; rw [sizeLine_eq]; omega)
    have hij : i + j ≤ n := by
      have := hI.h
      have : j * 1 ≤ j * m' := Nat.mul_le_mul_left j h0
      omega
    obtain ⟨i', j', hS⟩ := hI.step hL h0
    have hW := hJ.step hT h0
    have hr' := hr
    rw [pwL_step h0] at hr'
    (refine ws_if ?_; refine wt_test ?_; refine we_op ?_; refine we_op ?_; refine we_var rfl ?_; refine we_c ?_; refine ot_I ?_ ?_)
    · decide
    (refine we_c ?_; refine ot_eq rfl ?_; refine ⟨_, rfl, ?_⟩)
    rw [dec_int]
    refine ⟨fun z2 => ?_, fun z2 => ?_⟩
    · have c2 : m' % 2 = 1 := by have := of_decide_eq_true z2; omega
      rw [if_pos c2] at hS hr' hW
      ((first | refine ws_asg ?_ | refine ws_asgG ?_); refine we_call ?_; refine wa_cons ?_; refine we_var rfl ?_; refine wa_cons ?_; refine we_var rfl ?_; refine wa_nil ?_)
      refine times_fit hR hC hI.f hI.p fitf (lle (by omega)) (lle (by omega)) ?_
      ((first | exact ws_end (by assumption) (by assumption) | refine ws_thru ?_); (first | refine ws_asg ?_ | refine ws_asgG ?_); refine we_if ?_; refine wt_test ?_; refine we_op ?_; refine we_var rfl ?_; refine we_c ?_; refine ot_I0 ?_; refine ⟨_, rfl, ?_⟩)
      refine ⟨fun z3 => ?_, fun z3 => ?_⟩
      · have c3 : 1 < m' := by have := of_decide_eq_true z3; omega
        rw [if_pos c3] at hS hr' hW
        have hjj : j + j ≤ n := by
          have := hI.h
          have : j * 2 ≤ j * m' := Nat.mul_le_mul_left j c3
          omega
        (refine we_call ?_; refine wa_cons ?_; refine we_var rfl ?_; refine wa_cons ?_; refine we_var rfl ?_; refine wa_nil ?_)
        refine times_fit hC hC hI.p hI.p (fit_len (by have := hJ.pp hT c3; rw [sizeLine_eq]; omega)) (lle (by omega)) (lle (by omega)) ?_
        (refine ws_aug rfl ?_; refine we_c ?_; refine ot_I ?_ ?_)
        · exact ⟨by decide, by decide⟩
        rw [fdiv2]
        exact ws_nextE rfl _ (by (repeat' (first | exact Weak.nil | apply Weak.eq | apply Weak.no))) ⟨m' / 2, by omega, _, _, _, _, _, _, rfl, hR, ⟨hS, hW⟩, hr', Nat.le_refl _⟩
      · have c3 : ¬ 1 < m' := by have := of_decide_eq_false z3; omega
        rw [if_neg c3] at hS hr' hW
        (refine we_var rfl ?_; refine ws_aug rfl ?_; refine we_c ?_; refine ot_I ?_ ?_)
        · exact ⟨by decide, by decide⟩
        rw [fdiv2]
        exact ws_nextE rfl _ (by (repeat' (first | exact Weak.nil | apply Weak.eq | apply Weak.no))) ⟨m' / 2, by omega, _, _, _, _, _, _, rfl, hC, ⟨hS, hW⟩, hr', Nat.le_refl _⟩
    · have c2 : ¬ m' % 2 = 1 := by have := of_decide_eq_false z2; omega
      rw [if_neg c2] at hS hr' hW
      ((first | exact ws_end (by assumption) (by assumption) | refine ws_thru ?_); (first | refine ws_asg ?_ | refine ws_asgG ?_); refine we_if ?_; refine wt_test ?_; refine we_op ?_; refine we_var rfl ?_; refine we_c ?_; refine ot_I0 ?_; refine ⟨_, rfl, ?_⟩)
      refine ⟨fun z3 => ?_, fun z3 => ?_⟩
      · have c3 : 1 < m' := by have := of_decide_eq_true z3; omega
        rw [if_pos c3] at hS hr' hW
        have hjj : j + j ≤ n := by
          have := hI.h
          have : j * 2 ≤ j * m' := Nat.mul_le_mul_left j c3
          omega
        (refine we_call ?_; refine wa_cons ?_; refine we_var rfl ?_; refine wa_cons ?_; refine we_var rfl ?_; refine wa_nil ?_)
        refine times_fit hC hC hI.p hI.p (fit_len (by have := hJ.pp hT c3; rw [sizeLine_eq]; omega)) (lle (by omega)) (lle (by omega)) ?_
        (refine ws_aug rfl ?_; refine we_c ?_; refine ot_I ?_ ?_)
        · exact ⟨by decide, by decide⟩
        rw [fdiv2]
        exact ws_nextE rfl _ (by (repeat' (first | exact Weak.nil | apply Weak.eq | apply Weak.no))) ⟨m' / 2, by omega, _, _, _, _, _, _, rfl, hR, ⟨hS, hW⟩, hr', Nat.le_refl _⟩
      · have c3 : ¬ 1 < m' := by have := of_decide_eq_false z3; omega
        rw [if_neg c3] at hS hr' hW
        (refine we_var rfl ?_; refine ws_aug rfl ?_; refine we_c ?_; refine ot_I ?_ ?_)
        · exact ⟨by decide, by decide⟩
        rw [fdiv2]
        exact ws_nextE rfl _ (by (repeat' (first | exact Weak.nil | apply Weak.eq | apply Weak.no))) ⟨m' / 2, by omega, _, _, _, _, _, _, rfl, hC, ⟨hS, hW⟩, hr', Nat.le_refl _⟩
  · have h0 : m' = 0 := by have := of_decide_eq_false z; omega
    subst h0
    (refine ws_retS (by assumption) ?_; refine we_var rfl ?_)
    have e : f = pwL n one4 B' n := hr
    rw [e]
    exact hk
def S_power (P : Program) (w : World) (K : PySem.W.Frag) : Spc := fun rs k => ∃ (C : Addr) (B : PT) (n : Nat) (b : B4) (L T : Nat), rs = [rPT K C B, rInt (n : Int)] ∧ n ≤ 60 ∧ PolyC K C ∧ PolyC K (CR K) ∧ PB b L B ∧ 0 < L ∧ 0 < T ∧ B.length ≤ T ∧ T ^ n ≤ 16777000 ∧ L ^ n < 2 ^ 450000 ∧
  k (rPT K (CR K) (pwL n one4 B n))
theorem ok_power {P : Program} {w : World} {K : PySem.W.Frag} {mg : Str → Option Value} {base : Heap} {f : Addr} {fd fd_power_of fd_check_number : FuncData} (T : Txt K mg) (F : FunD K "power" "power" (defArgs s_power) (defBody s_power) (defScope s_power) [] [] f fd) (c_power_of : Callee P w K mg base (He.ga K "power_of") fd_power_of ["poly", "many"] 5 (spOf (S_power_of2 P w K))) (c_check_number : Callee P w K mg base (He.ga K "check_number") fd_check_number ["thing", "least", "most"] 3 (spOf (S_check_number P w K)))  :
    FnOk P w K mg base CX0 6 f fd ["poly", "many"] (spOf (S_power P w K)) := by
  refine F.ok sc_power (len_of (by intro rs k h; first | (obtain ⟨e, _⟩ := h; subst e; exact rfl) | (obtain ⟨_, e, _⟩ := h; subst e; exact rfl) | (obtain ⟨_, _, e, _⟩ := h; subst e; exact rfl) | (obtain ⟨_, _, _, e, _⟩ := h; subst e; exact rfl) | (obtain ⟨_, _, _, _, e, _⟩ := h; subst e; exact rfl) | (obtain ⟨_, _, _, _, _, e, _⟩ := h; subst e; exact rfl) | (obtain ⟨_, _, _, _, _, _, e, _⟩ := h; subst e; exact rfl) | (obtain ⟨_, _, _, _, _, _, _, e, _⟩ := h; subst e; exact rfl) | (obtain ⟨_, _, _, _, _, _, _, _, e, _⟩ := h; subst e; exact rfl) | (obtain ⟨_, _, _, _, _, _, _, _, _, e, _⟩ := h; subst e; exact rfl) | (obtain ⟨_, _, _, _, _, _, _, _, _, _, e, _⟩ := h; subst e; exact rfl) | (obtain ⟨_, _, _, _, _, _, _, _, _, _, _, e, _⟩ := h; subst e; exact rfl) | (obtain ⟨_, _, _, _, _, _, _, _, _, _, _, _, e, _⟩ := h; subst e; exact rfl))) (fun cdv A outer s H vs Q E hr h => ?_)
  
  refine ⟨_, PSs.nox (pss_cons (ps_expr (pe_call (c_check_number.F.mono (by decide)) hr rfl T.g_check_number c_check_number.kp c_check_number.b .nil pass0 (pa_cons (pv 1) (pa_cons pe_int (pa_cons (pe_glob (v := .int 60) rfl T.c_MOST_POWER.choose_spec ⟨_, rfl⟩) pa_nil))))) (pss_cons (ps_ret (pe_call (c_power_of.F.mono (by decide)) hr rfl T.g_power_of c_power_of.kp c_power_of.b .nil pass0 (pa_cons (pv 0) (pa_cons (pv 1) pa_nil)))) pss_nil)), ?_⟩
  refine read_of P w K h rfl fun rs k D hs hD hN => ?_
  obtain ⟨C, B', n, b, L, T0, rfl, hn, h1, hR, hB, hL, hT, hBl, hv, hl, hk⟩ := hs
  ((first | refine ws_app rfl ?_ | refine ws_drop ?_); refine we_call ?_; refine wa_cons ?_; refine we_var rfl ?_; refine wa_cons ?_; refine we_c ?_; refine wa_cons ?_; refine we_c ?_; refine wa_nil ?_)
  refine ⟨_, _, _, rfl, ⟨by omega, by omega⟩, ?_⟩
  (refine ws_retS (by assumption) ?_; refine we_call ?_; refine wa_cons ?_; refine we_var rfl ?_; refine wa_cons ?_; refine we_var rfl ?_; refine wa_nil ?_)
  exact ⟨C, B', n, b, L, T0, rfl, h1, hR, hB, hL, hT, hBl, hv, hl, hk⟩
end Lw
set_option Elab.async false
set_option linter.all false
set_option maxRecDepth 100000
set_option maxHeartbeats 1000000
namespace Lw
open PySem PySem.Spec PyProof.Rows L2 BX
/-! slope -/
def slK (i : Nat) (k : List Int) : List Int := k.set i (k.getD i 0 - 1)
def slF (A : PT) (i : Nat) : PT := (A.filter fun t => decide (0 < t.1.getD i 0)).map fun t => (slK i t.1, t.2 * t.1.getD i 0)
theorem canon_perm {A B : PT} (p : A.Perm B) (nd : (A.map (·.1)).Nodup) : canon A = canon B := by
  have ndB : (B.map (·.1)).Nodup := (p.map _).nodup_iff.mp nd
  exact can_ext (can_canon nd) (can_canon ndB) fun k => by rw [cf_canon nd, cf_canon ndB, cf_perm nd p]
theorem slK_inj {i : Nat} (hi : i < 4) {k l : List Int} (hk : k.length = 4) (hl : l.length = 4) (h : slK i k = slK i l) : k = l := by
  unfold slK at h
  match k, l, hk, hl with
  | [a, b, c, d], [a', b', c', d'], _, _ =>
    match i, hi with
    | 0, _ => simp at h ⊢; omega
    | 1, _ => simp at h ⊢; omega
    | 2, _ => simp at h ⊢; omega
    | 3, _ => simp at h ⊢; omega
theorem nodup_mapK {f : List Int → List Int} {A : PT} {g : List Int × Int → Int} (hf : ∀ x, x ∈ A → ∀ y, y ∈ A → f x.1 = f y.1 → x.1 = y.1) (nd : (A.map (·.1)).Nodup) : ((A.map fun t => (f t.1, g t)).map (·.1)).Nodup := by
  induction A with
  | nil => exact List.nodup_nil
  | cons e A ih =>
    rw [List.map_cons, List.nodup_cons] at nd
    rw [List.map_cons, List.map_cons, List.nodup_cons]
    refine ⟨fun z => ?_, ih (fun x hx y hy => hf x (List.mem_cons_of_mem _ hx) y (List.mem_cons_of_mem _ hy)) nd.2⟩
    rw [List.map_map] at z
    obtain ⟨d, hd, e1⟩ := List.mem_map.mp z
    have := hf d (List.mem_cons_of_mem _ hd) e (List.mem_cons_self ..) e1
    exact nd.1 (List.mem_map.mpr ⟨d, hd, this⟩)
theorem nodup_filterK {A : PT} {p : List Int × Int → Bool} (nd : (A.map (·.1)).Nodup) : ((A.filter p).map (·.1)).Nodup := nd.sublist (List.Sublist.map _ (List.filter_sublist ..))
theorem slF_nd {A : PT} {i : Nat} (hi : i < 4) (h4 : N4 A) (nd : (A.map (·.1)).Nodup) : ((slF A i).map (·.1)).Nodup :=
  nodup_mapK (f := slK i) (g := fun t => t.2 * t.1.getD i 0) (fun x hx y hy h => slK_inj hi (h4 x (List.mem_filter.mp hx).1) (h4 y (List.mem_filter.mp hy).1) h) (nodup_filterK nd)
theorem slF_perm {A B : PT} (p : A.Perm B) (i : Nat) : (slF A i).Perm (slF B i) := (p.filter _).map _
/-- one step of a slope's table -/
def slS (i : Nat) (m : PT) (t : List Int × Int) : PT := if 0 < t.1.getD i 0 then putM m (slK i t.1) (t.2 * t.1.getD i 0) else m
theorem slF_app (A B : PT) (i : Nat) : slF (A ++ B) i = slF A i ++ slF B i := by
  unfold slF
  rw [List.filter_append, List.map_append]
theorem putM_new {κ α : Type} [DecidableEq κ] {m : List (κ × α)} {k : κ} {a : α} (h : k ∉ m.map (·.1)) : putM m k a = m ++ [(k, a)] := by
  unfold putM
  rw [getM_none.mpr h]
  rfl
theorem slS_take {A : PT} {i : Nat} (hi : i < 4) (h4 : N4 A) (nd : (A.map (·.1)).Nodup) {j : Nat} (hj : j < A.length) : slS i (slF (A.take j) i) A[j] = slF (A.take (j + 1)) i := by
  rw [take_succ_at hj, slF_app]
  unfold slS
  by_cases h : 0 < A[j].1.getD i 0
  · rw [if_pos h, putM_new]
    · show _ = _ ++ slF [A[j]] i
      unfold slF
      rw [List.filter_cons, if_pos (decide_eq_true h)]
      rfl
    · intro z
      unfold slF at z
      rw [List.map_map] at z
      obtain ⟨d, hd, e1⟩ := List.mem_map.mp z
      have hdA := (List.mem_filter.mp hd).1
      have e2 := slK_inj hi (h4 d (List.mem_of_mem_take hdA)) (h4 _ (List.getElem_mem hj)) e1
      obtain ⟨u, hu, e3⟩ := List.mem_iff_getElem.mp hdA
      rw [List.getElem_take] at e3
      have hu' : u < j := by rw [List.length_take] at hu; omega
      have := (List.pairwise_iff_getElem.mp nd) u j (by rw [List.length_map]; omega) (by rw [List.length_map]; exact hj) hu'
      rw [List.getElem_map, List.getElem_map, e3] at this
      exact this e2
  · rw [if_neg h]
    have : slF [A[j]] i = [] := by
      unfold slF
      rw [List.filter_cons, if_neg (by rw [decide_eq_false h]; decide)]
      rfl
    rw [this, List.append_nil]
theorem slF_len (A : PT) (i : Nat) : (slF A i).length ≤ A.length := by
  unfold slF
  rw [List.length_map]
  exact List.length_filter_le ..
theorem cut_len {p : List Int} {r : Rel} {i : Nat} (hp : p.length = 4) (hi : i < 4) : (cutR (List.map rInt p) none (some (i : Int))).length + ([r] : List Rel).length ≤ sizeLine := by
  match p, hp with
  | [a, b, c, d], _ =>
    match i, hi with
    | 0, _ => exact Nat.le_of_ble_eq_true rfl
    | 1, _ => exact Nat.le_of_ble_eq_true rfl
    | 2, _ => exact Nat.le_of_ble_eq_true rfl
    | 3, _ => exact Nat.le_of_ble_eq_true rfl
theorem cut_len2 {p : List Int} {r : Rel} {i : Nat} (hp : p.length = 4) (hi : i < 4) : (cutR (List.map rInt p) none (some (i : Int)) ++ [r]).length + (cutR (List.map rInt p) (some ((i : Int) + 1)) none).length ≤ sizeLine := by
  match p, hp with
  | [a, b, c, d], _ =>
    match i, hi with
    | 0, _ => exact Nat.le_of_ble_eq_true rfl
    | 1, _ => exact Nat.le_of_ble_eq_true rfl
    | 2, _ => exact Nat.le_of_ble_eq_true rfl
    | 3, _ => exact Nat.le_of_ble_eq_true rfl
theorem cut_eq {K : PySem.W.Frag} {p : List Int} {v : Int} {i : Nat} (hp : p.length = 4) (hi : i < 4) : rTup K (cutR (List.map rInt p) none (some (i : Int)) ++ [rInt v] ++ cutR (List.map rInt p) (some ((i : Int) + 1)) none) = rKey K (p.set i v) := by
  match p, hp with
  | [a, b, c, d], _ =>
    match i, hi with
    | 0, _ => rfl
    | 1, _ => rfl
    | 2, _ => rfl
    | 3, _ => rfl
theorem Bx.exp {b : B4} {A : PT} (h : Bx b A) {t : List Int × Int} (ht : t ∈ A) {i : Nat} (hi : i < 4) : 0 ≤ t.1.getD i 0 ∧ (t.1.getD i 0).toNat ≤ b.at i := (in_at.mp (h t ht)).2 i hi
def S_slope_by (P : Program) (w : World) (K : PySem.W.Frag) : Spc := fun rs k => ∃ (C : Addr) (A : PT) (b : B4) (i n : Nat), rs = [rPT K C A, rInt (i : Int)] ∧ PolyC K C ∧ Bx b A ∧ (A.map (·.1)).Nodup ∧ BdP n A ∧ 0 < n ∧ n ≤ 450000 ∧ b.at i < 2 ^ 64 ∧ i < 4 ∧ A.length ≤ 16777000 ∧ k (rPT K (CR K) (canon (slF A i)))
theorem ok_slope_by {P : Program} {w : World} {K : PySem.W.Frag} {mg : Str → Option Value} {base : Heap} {f : Addr} {fd fd_poly_from : FuncData} (T : Txt K mg) (F : FunD K "slope_by" "slope_by" (defArgs s_slope_by) (defBody s_slope_by) (defScope s_slope_by) [] [] f fd) (c_poly_from : Callee P w K mg base (He.ga K "poly_from") fd_poly_from ["parts"] 3 (spOf (S_poly_from P w K)))  :
    FnOk P w K mg base CX0 4 f fd ["poly", "k"] (spOf (S_slope_by P w K)) := by
  refine F.ok sc_slope_by (len_of (by intro rs k h; first | (obtain ⟨e, _⟩ := h; subst e; exact rfl) | (obtain ⟨_, e, _⟩ := h; subst e; exact rfl) | (obtain ⟨_, _, e, _⟩ := h; subst e; exact rfl) | (obtain ⟨_, _, _, e, _⟩ := h; subst e; exact rfl) | (obtain ⟨_, _, _, _, e, _⟩ := h; subst e; exact rfl) | (obtain ⟨_, _, _, _, _, e, _⟩ := h; subst e; exact rfl) | (obtain ⟨_, _, _, _, _, _, e, _⟩ := h; subst e; exact rfl) | (obtain ⟨_, _, _, _, _, _, _, e, _⟩ := h; subst e; exact rfl) | (obtain ⟨_, _, _, _, _, _, _, _, e, _⟩ := h; subst e; exact rfl) | (obtain ⟨_, _, _, _, _, _, _, _, _, e, _⟩ := h; subst e; exact rfl) | (obtain ⟨_, _, _, _, _, _, _, _, _, _, e, _⟩ := h; subst e; exact rfl) | (obtain ⟨_, _, _, _, _, _, _, _, _, _, _, e, _⟩ := h; subst e; exact rfl) | (obtain ⟨_, _, _, _, _, _, _, _, _, _, _, _, e, _⟩ := h; subst e; exact rfl))) (fun cdv A outer s H vs Q E hr h => ?_)
  
  refine ⟨_, PSs.nox (pss_cons (ps_set (i := 2) sc_slope_by.nd rfl (by first | exact Or.inl rfl | exact Or.inr rfl) (q_new (P := P) (w := w) rfl rfl)) (pss_cons (ps_for PassesOwn.never rfl (q_tup (K := K) rfl (q_fld (K := K) rfl (pv 0) rfl)) (q_gtup (K := K) rfl rfl (pgs_cons (pg_name (i := 3) sc_slope_by.nd rfl (by first | exact Or.inl rfl | exact Or.inr rfl)) (pgs_cons (pg_name (i := 4) sc_slope_by.nd rfl (by first | exact Or.inl rfl | exact Or.inr rfl)) pgs_nil))) (pss_cons (ps_if (pt_cmpR op_gt (pe_ix (k_ixT (K := K) rfl) (pv 3) (pv 1) (fun _ _ => rfl)) pe_int (nomark _)) (pss_cons (q_put (P := P) (w := w) (K := K) rfl rfl rfl (hu_of hr) (pv 2) (pe_op (k_catT (K := K) rfl) (pe_op (k_catT (K := K) rfl) (pe_slice (k_slT (K := K) rfl) (pv 3) po_none (po_some (pv 1))) (pe_tup (pa_cons (pe_op op_sub (pe_ix (k_ixT (K := K) rfl) (pv 3) (pv 1) (fun _ _ => rfl)) pe_int) pa_nil))) (pe_slice (k_slT (K := K) rfl) (pv 3) (po_some (pe_op op_add (pv 1) pe_int)) po_none)) (pe_op op_mulW (pv 4) (pe_ix (k_ixT (K := K) rfl) (pv 3) (pv 1) (fun _ _ => rfl))) rfl) pss_nil) pss_nil) pss_nil)) (pss_frz 2 (pss_cons (ps_ret (pe_call (c_poly_from.F.mono (by decide)) hr rfl T.g_poly_from c_poly_from.kp c_poly_from.b .nil pass0 (pa_cons (pv 2) pa_nil))) pss_nil)))), ?_⟩
  refine read_of P w K h rfl fun rs k D hs hD hN => ?_
  obtain ⟨C, A', b, i, n, rfl, hC, hA, nd, hb, hn0, hn, h64, hi, hz, hk⟩ := hs
  (refine ws_asgX ?_; refine wx_new ?_)
  refine ws_forP A' (g := fun t => rTup K [rKey K t.1, rInt t.2]) (fun j m => m = slF (A'.take j) i) ([] : PT) (fun m => [.im (rPT K C A'), .im (rInt (i : Int)), .mx (mI m), .no, .no]) ?_
  (refine wi_tup ?_; refine we_fld ?_; refine we_var rfl ?_)
  refine ⟨C, _, rTms K A', rfl, hC.cl, hC.na, rfl, _, rfl, by rw [List.length_map], fun i hi => getD_map hi, by (repeat' (first | exact Weak.nil | apply Weak.eq | apply Weak.no)), rfl, fun j hj m hm G st => ?_, fun m hm => ?_⟩
  · subst hm
    have hin := hA _ (List.getElem_mem hj)
    have h4 := hin.len
    obtain ⟨p0, p1⟩ := hA.exp (List.getElem_mem hj) hi
    refine ⟨_, _, wg_tup rfl (wgs_cons wg_name (wgs_cons wg_name wgs_nil)), ?_⟩
    (refine ws_if ?_; refine wt_test ?_; refine we_op ?_; refine we_op ?_; refine we_var rfl ?_; refine we_var rfl ?_)
    refine ot_ixT (getD_key (i := i) (by omega)) ?_
    (refine we_c ?_; refine ot_I0 ?_; refine ⟨_, rfl, ?_⟩)
    refine ⟨fun z => ?_, fun z => ?_⟩
    · have hpos := of_decide_eq_true z
      (refine ws_xput rfl ?_; refine we_op ?_; refine we_var rfl ?_; refine we_op ?_; refine we_var rfl ?_; refine we_var rfl ?_)
      refine ot_ixT (getD_key (i := i) (by omega)) ?_
      (refine ot_I ?_ ?_)
      · exact wide_mul (hb _ (List.getElem_mem hj)) (Nat.lt_of_le_of_lt (by omega) h64) hn0 (by decide) (by omega)
      (refine we_op ?_; refine we_op ?_; refine we_slT ?_; refine we_var rfl ?_; refine ⟨_, rfl, ?_⟩; refine wo_none ?_; refine wo_some ?_; refine we_var rfl ?_; refine ⟨_, rfl, ?_⟩; refine we_tup ?_; refine wa_cons ?_; refine we_op ?_; refine we_op ?_; refine we_var rfl ?_; refine we_var rfl ?_)
      refine ot_ixT (getD_key (i := i) (by omega)) ?_
      (refine we_c ?_; refine ot_I0 ?_; refine wa_nil ?_; refine ⟨Nat.le_of_ble_eq_true rfl, ?_⟩; refine ot_catT ?_ ?_)
      · exact cut_len h4 hi
      (refine we_slT ?_; refine we_var rfl ?_; refine ⟨_, rfl, ?_⟩; refine wo_some ?_; refine we_op ?_; refine we_var rfl ?_; refine we_c ?_; refine ot_I0 ?_; refine ⟨_, rfl, ?_⟩; refine wo_none ?_; refine ot_catT ?_ ?_)
      · exact cut_len2 h4 hi
      have hl : (mI (slF (A'.take j) i)).length < sizeLine := by
        rw [List.length_map, sizeLine_eq]
        have := slF_len (A'.take j) i
        rw [List.length_take] at this
        omega
      refine ⟨slK i A'[j].1, cut_eq h4 hi, hl, ?_⟩
      have e := slS_take hi hA.n4 nd hj
      unfold slS at e
      rw [if_pos hpos] at e
      refine ws_nextI rfl (slF (A'.take (j + 1)) i) rfl ?_
      rw [← e, show mI (putM (slF (A'.take j) i) (slK i A'[j].1) (A'[j].2 * A'[j].1.getD i 0)) = putM (mI (slF (A'.take j) i)) (slK i A'[j].1) (rInt (A'[j].2 * A'[j].1.getD i 0)) from (putM_map rInt _ _ _).symm]
      (repeat' (first | exact Weak.nil | apply Weak.eq | apply Weak.no))
    · have hneg := of_decide_eq_false z
      skip
      have e := slS_take hi hA.n4 nd hj
      unfold slS at e
      rw [if_neg hneg] at e
      refine ws_nextI rfl (slF (A'.take (j + 1)) i) rfl ?_
      rw [← e]
      (repeat' (first | exact Weak.nil | apply Weak.eq | apply Weak.no))
  · rw [List.take_length] at hm
    subst hm
    ((first | refine ws_frzX rfl ?_ | refine ws_frzL rfl ?_); refine ws_retS (by assumption) ?_; refine we_call ?_; refine wa_cons ?_; refine we_var rfl ?_; refine wa_nil ?_)
    refine ⟨slF A' i, rfl, fun e he => ?_, ?_, hk⟩
    · unfold slF at he
      obtain ⟨d, hd, rfl⟩ := List.mem_map.mp he
      have := (hA d (List.mem_filter.mp hd).1).len
      intro z
      have z' : (d.1.set i (d.1.getD i 0 - 1)).length = 0 := by rw [show d.1.set i (d.1.getD i 0 - 1) = [] from z]; rfl
      rw [List.length_set] at z'
      omega
    · rw [sizeLine_eq]
      have := slF_len A' i
      omega
def S_slope (P : Program) (w : World) (K : PySem.W.Frag) : Spc := S_slope_by P w K
theorem ok_slope {P : Program} {w : World} {K : PySem.W.Frag} {mg : Str → Option Value} {base : Heap} {f : Addr} {fd fd_slope_by fd_check_unknown : FuncData} (T : Txt K mg) (F : FunD K "slope" "slope" (defArgs s_slope) (defBody s_slope) (defScope s_slope) [] [] f fd) (c_slope_by : Callee P w K mg base (He.ga K "slope_by") fd_slope_by ["poly", "k"] 4 (spOf (S_slope_by P w K))) (c_check_unknown : Callee P w K mg base (He.ga K "check_unknown") fd_check_unknown ["thing"] 3 (spOf (S_check_unknown P w K)))  :
    FnOk P w K mg base CX0 5 f fd ["poly", "k"] (spOf (S_slope P w K)) := by
  refine F.ok sc_slope (len_of (by intro rs k h; first | (obtain ⟨e, _⟩ := h; subst e; exact rfl) | (obtain ⟨_, e, _⟩ := h; subst e; exact rfl) | (obtain ⟨_, _, e, _⟩ := h; subst e; exact rfl) | (obtain ⟨_, _, _, e, _⟩ := h; subst e; exact rfl) | (obtain ⟨_, _, _, _, e, _⟩ := h; subst e; exact rfl) | (obtain ⟨_, _, _, _, _, e, _⟩ := h; subst e; exact rfl) | (obtain ⟨_, _, _, _, _, _, e, _⟩ := h; subst e; exact rfl) | (obtain ⟨_, _, _, _, _, _, _, e, _⟩ := h; subst e; exact rfl) | (obtain ⟨_, _, _, _, _, _, _, _, e, _⟩ := h; subst e; exact rfl) | (obtain ⟨_, _, _, _, _, _, _, _, _, e, _⟩ := h; subst e; exact rfl) | (obtain ⟨_, _, _, _, _, _, _, _, _, _, e, _⟩ := h; subst e; exact rfl) | (obtain ⟨_, _, _, _, _, _, _, _, _, _, _, e, _⟩ := h; subst e; exact rfl) | (obtain ⟨_, _, _, _, _, _, _, _, _, _, _, _, e, _⟩ := h; subst e; exact rfl))) (fun cdv A outer s H vs Q E hr h => ?_)
  
  refine ⟨_, PSs.nox (pss_cons (ps_expr (pe_call (c_check_unknown.F.mono (by decide)) hr rfl T.g_check_unknown c_check_unknown.kp c_check_unknown.b .nil pass0 (pa_cons (pv 1) pa_nil))) (pss_cons (ps_ret (pe_call (c_slope_by.F.mono (by decide)) hr rfl T.g_slope_by c_slope_by.kp c_slope_by.b .nil pass0 (pa_cons (pv 0) (pa_cons (pv 1) pa_nil)))) pss_nil)), ?_⟩
  refine read_of P w K h rfl fun rs k D hs hD hN => ?_
  obtain ⟨C, A', b, i, n, rfl, hC, hA, nd, hb, hn0, hn, h64, hi, hz, hk⟩ := hs
  ((first | refine ws_app rfl ?_ | refine ws_drop ?_); refine we_call ?_; refine wa_cons ?_; refine we_var rfl ?_; refine wa_nil ?_)
  refine ⟨i, rfl, by omega, ?_⟩
  (refine ws_retS (by assumption) ?_; refine we_call ?_; refine wa_cons ?_; refine we_var rfl ?_; refine wa_cons ?_; refine we_var rfl ?_; refine wa_nil ?_)
  exact ⟨C, A', b, i, n, rfl, hC, hA, nd, hb, hn0, hn, h64, hi, hz, hk⟩
/-! two unknowns exchanged -/
def exN (k l o : Nat) : Nat := if o = k then l else if o = l then k else o
def exK (k l : Nat) (x : List Int) : List Int := (List.range 4).map fun o => x.getD (exN k l o) 0
def exF (A : PT) (k l : Nat) : PT := A.map fun t => (exK k l t.1, t.2)
theorem exN_lt {k l o : Nat} (hk : k < 4) (hl : l < 4) (ho : o < 4) : exN k l o < 4 := by
  unfold exN
  split
  · exact hl
  · split
    · exact hk
    · exact ho
theorem exN_exN (k l o : Nat) : exN k l (exN k l o) = o := by
  unfold exN
  by_cases h1 : o = k
  · rw [if_pos h1]
    by_cases h2 : l = k
    · rw [if_pos h2]; omega
    · rw [if_neg h2, if_pos rfl]; omega
  · rw [if_neg h1]
    by_cases h2 : o = l
    · rw [if_pos h2, if_pos rfl]; omega
    · rw [if_neg h2, if_neg h1, if_neg h2]
theorem exK_inj {k l : Nat} (hk : k < 4) (hl : l < 4) {x y : List Int} (hx : x.length = 4) (hy : y.length = 4) (h : exK k l x = exK k l y) : x = y := by
  have g : ∀ o, o < 4 → x.getD (exN k l o) 0 = y.getD (exN k l o) 0 := fun o ho => by
    have := congrArg (fun z : List Int => z.getD o 0) h
    unfold exK at this
    simp only [List.getD_eq_getElem?_getD, List.getElem?_map, List.getElem?_range ho] at this
    simpa using this
  have g' : ∀ o, o < 4 → x.getD o 0 = y.getD o 0 := fun o ho => by
    have e := exN_exN k l o
    have := g (exN k l o) (exN_lt hk hl ho)
    rw [e] at this
    exact this
  match x, y, hx, hy with
  | [a, b, c, d], [a', b', c', d'], _, _ =>
    have h0 := g' 0 (by decide)
    have h1 := g' 1 (by decide)
    have h2 := g' 2 (by decide)
    have h3 := g' 3 (by decide)
    simp at h0 h1 h2 h3
    rw [h0, h1, h2, h3]
theorem exF_nd {A : PT} {k l : Nat} (hk : k < 4) (hl : l < 4) (h4 : N4 A) (nd : (A.map (·.1)).Nodup) : ((exF A k l).map (·.1)).Nodup :=
  nodup_mapK (f := exK k l) (g := fun t => t.2) (fun x hx y hy h => exK_inj hk hl (h4 x hx) (h4 y hy) h) nd
theorem exF_perm {A B : PT} (p : A.Perm B) (k l : Nat) : (exF A k l).Perm (exF B k l) := p.map _
theorem exF_n4 (A : PT) (k l : Nat) : N4 (exF A k l) := fun e he => by
  obtain ⟨d, _, rfl⟩ := List.mem_map.mp he
  rfl
def S_exchanged (P : Program) (w : World) (K : PySem.W.Frag) : Spc := fun rs kk => ∃ (C : Addr) (A : PT) (b : B4) (k l : Nat), rs = [rPT K C A, rInt (k : Int), rInt (l : Int)] ∧ PolyC K C ∧ Bx b A ∧ (A.map (·.1)).Nodup ∧ k < 4 ∧ l < 4 ∧ A.length ≤ 16777000 ∧ kk (rPT K (CR K) (canon (exF A k l)))
theorem ok_exchanged {P : Program} {w : World} {K : PySem.W.Frag} {mg : Str → Option Value} {base : Heap} {f : Addr} {fd fd_poly_from fd_check_unknown : FuncData} (T : Txt K mg) (F : FunD K "exchanged" "exchanged" (defArgs s_exchanged) (defBody s_exchanged) (defScope s_exchanged) [] [] f fd) (c_poly_from : Callee P w K mg base (He.ga K "poly_from") fd_poly_from ["parts"] 3 (spOf (S_poly_from P w K))) (c_check_unknown : Callee P w K mg base (He.ga K "check_unknown") fd_check_unknown ["thing"] 3 (spOf (S_check_unknown P w K)))  :
    FnOk P w K mg base CX0 4 f fd ["poly", "k", "l"] (spOf (S_exchanged P w K)) := by
  refine F.ok sc_exchanged (len_of (by intro rs k h; first | (obtain ⟨e, _⟩ := h; subst e; exact rfl) | (obtain ⟨_, e, _⟩ := h; subst e; exact rfl) | (obtain ⟨_, _, e, _⟩ := h; subst e; exact rfl) | (obtain ⟨_, _, _, e, _⟩ := h; subst e; exact rfl) | (obtain ⟨_, _, _, _, e, _⟩ := h; subst e; exact rfl) | (obtain ⟨_, _, _, _, _, e, _⟩ := h; subst e; exact rfl) | (obtain ⟨_, _, _, _, _, _, e, _⟩ := h; subst e; exact rfl) | (obtain ⟨_, _, _, _, _, _, _, e, _⟩ := h; subst e; exact rfl) | (obtain ⟨_, _, _, _, _, _, _, _, e, _⟩ := h; subst e; exact rfl) | (obtain ⟨_, _, _, _, _, _, _, _, _, e, _⟩ := h; subst e; exact rfl) | (obtain ⟨_, _, _, _, _, _, _, _, _, _, e, _⟩ := h; subst e; exact rfl) | (obtain ⟨_, _, _, _, _, _, _, _, _, _, _, e, _⟩ := h; subst e; exact rfl) | (obtain ⟨_, _, _, _, _, _, _, _, _, _, _, _, e, _⟩ := h; subst e; exact rfl))) (fun cdv A outer s H vs Q E hr h => ?_)
  
  refine ⟨_, PSs.nox (pss_cons (ps_expr (pe_call (c_check_unknown.F.mono (by decide)) hr rfl T.g_check_unknown c_check_unknown.kp c_check_unknown.b .nil pass0 (pa_cons (pv 1) pa_nil))) (pss_cons (ps_expr (pe_call (c_check_unknown.F.mono (by decide)) hr rfl T.g_check_unknown c_check_unknown.kp c_check_unknown.b .nil pass0 (pa_cons (pv 2) pa_nil))) (pss_cons (ps_set (i := 3) sc_exchanged.nd rfl (by first | exact Or.inl rfl | exact Or.inr rfl) (pe_frz (pe_lc (own := [("other", 4)]) (g := gName 4) (tt := tYes) rfl sc_exchanged.nd (pi_range1 rfl T.b_range (pa_cons (pe_glob (v := .int 4) rfl T.c_UNKNOWNS.choose_spec ⟨_, rfl⟩) pa_nil)) (blkOk_by (own := [("other", 4)]) (N := ["poly", "k", "l", "order", "other", "powers", "count"]) (sc := defScope s_exchanged) (by decide +kernel)) (fun _ _ _ _ _ => (pg_name (i := 4) sc_exchanged.nd rfl (by first | exact Or.inl rfl | exact Or.inr rfl))) (fun _ _ _ _ _ => pts_nil) (fun _ _ _ _ _ => (pe_ifExp (pt_cmpR op_eq (pv 4) (pv 1) (nomark _)) (pv 2) (pe_ifExp (pt_cmpR op_eq (pv 4) (pv 2) (nomark _)) (pv 1) (pv 4))))))) (pss_cons (ps_ret (pe_call (c_poly_from.F.mono (by decide)) hr rfl T.g_poly_from c_poly_from.kp c_poly_from.b .nil pass0 (pa_cons (pe_frz (q_dc (own := [("powers", 5), ("count", 6)]) (g := gTup K 2 (gCons (gName 5) (gCons (gName 6) gNil))) (tt := tYes) (P := P) (w := w) (K := K) rfl rfl rfl hr.units rfl sc_exchanged.nd (q_tup (K := K) rfl (q_fld (K := K) rfl (pv 0) rfl)) (blkOk_by (own := [("powers", 5), ("count", 6)]) (N := ["poly", "k", "l", "order", "other", "powers", "count"]) (sc := defScope s_exchanged) (by decide +kernel)) (fun _ _ _ _ _ => (q_gtup (K := K) rfl rfl (pgs_cons (pg_name (i := 5) sc_exchanged.nd rfl (by first | exact Or.inl rfl | exact Or.inr rfl)) (pgs_cons (pg_name (i := 6) sc_exchanged.nd rfl (by first | exact Or.inl rfl | exact Or.inr rfl)) pgs_nil)))) (fun _ _ _ _ _ => pts_nil) (fun _ _ _ _ _ => (pe_callTy (k_tupleOf (K := K) rfl) rfl T.b_tuple boot_tuple (pa_cons (pe_frz (pe_lc (own := [("other", 4)]) (g := gName 4) (tt := tYes) rfl sc_exchanged.nd (q_list (K := K) rfl (pv 3)) (blkOk_by (own := [("other", 4)]) (N := ["poly", "k", "l", "order", "other", "powers", "count"]) (by rfl)) (fun _ _ _ _ _ => (pg_name (i := 4) sc_exchanged.nd rfl (by first | exact Or.inl rfl | exact Or.inr rfl))) (fun _ _ _ _ _ => pts_nil) (fun _ _ _ _ _ => (pe_ix (k_ixT (K := K) rfl) (pv 5) (pv 4) (fun _ _ => rfl))))) pa_nil))) (fun _ _ _ _ _ => (pv 6)))) pa_nil))) pss_nil)))), ?_⟩
  refine read_of P w K h rfl fun rs k D hs hD hN => ?_
  obtain ⟨C, A', b, x, y, rfl, hC, hA, nd, hx, hy, hz, hk⟩ := hs
  ((first | refine ws_app rfl ?_ | refine ws_drop ?_); refine we_call ?_; refine wa_cons ?_; refine we_var rfl ?_; refine wa_nil ?_)
  refine ⟨(x : Int), rfl, by omega, ?_⟩
  ((first | refine ws_app rfl ?_ | refine ws_drop ?_); refine we_call ?_; refine wa_cons ?_; refine we_var rfl ?_; refine wa_nil ?_)
  refine ⟨(y : Int), rfl, by omega, ?_⟩
  ((first | refine ws_asg ?_ | refine ws_asgG ?_); refine we_frzL ?_)
  refine wl_lcM (List.range 4) (g := fun j => rInt (j : Int)) (h := fun j => rInt ((exN x y j : Nat) : Int)) ?_
  (refine wi_rng1 ?_; refine wa_cons ?_; refine we_c ?_; refine wa_nil ?_; refine ⟨_, rfl, ?_⟩)
  refine ⟨by decide, by decide, rfl, fun j hj => by rw [List.getElem_range], by decide, fun j hj G st => ?_, ?_⟩
  · refine ⟨_, _, ?_, wg_name, ?_⟩
    · intro j hj; exact hj
    · unfold exN
      (refine we_if ?_; refine wt_test ?_; refine we_op ?_; refine we_var rfl ?_; refine we_var rfl ?_; refine ot_eq rfl ?_; refine ⟨_, rfl, ?_⟩)
      rw [dec_int]
      refine ⟨fun z => ?_, fun z => ?_⟩
      · have e : j = x := by have := of_decide_eq_true z; omega
        (refine we_var rfl ?_)
        rw [if_pos e]
      · have e : ¬ j = x := by have := of_decide_eq_false z; omega
        (refine we_if ?_; refine wt_test ?_; refine we_op ?_; refine we_var rfl ?_; refine we_var rfl ?_; refine ot_eq rfl ?_; refine ⟨_, rfl, ?_⟩)
        rw [dec_int]
        refine ⟨fun z => ?_, fun z => ?_⟩
        · have e2 : j = y := by have := of_decide_eq_true z; omega
          (refine we_var rfl ?_)
          rw [if_neg e, if_pos e2]
        · have e2 : ¬ j = y := by have := of_decide_eq_false z; omega
          (refine we_var rfl ?_)
          rw [if_neg e, if_neg e2]
  · (refine ws_retS (by assumption) ?_; refine we_call ?_; refine wa_cons ?_; refine we_frzX ?_)
    refine wx_xdcF A' (g := fun t => rTup K [rKey K t.1, rInt t.2]) (fun t => (exK x y t.1, rInt t.2)) ?_
    (refine wi_tup ?_; refine we_fld ?_; refine we_var rfl ?_)
    refine ⟨C, _, rTms K A', rfl, hC.cl, hC.na, rfl, _, rfl, by rw [List.length_map], fun i hi => getD_map hi, by rw [sizeLine_eq]; omega, fun t ht G' st' => ?_, ?_⟩
    · refine ⟨_, _, ?_, wg_tup rfl (wgs_cons wg_name (wgs_cons wg_name wgs_nil)), ?_⟩
      · intro j hj; exact hj
      · have h4 := (hA t ht).len
        ((first | refine we_cb ?_ | refine we_xlen ?_); refine wa_cons ?_; refine we_frzL ?_)
        refine wl_lcM (List.range 4) (g := fun j => rInt ((exN x y j : Nat) : Int)) (h := fun j => rInt (t.1.getD (exN x y j) 0)) ?_
        (refine wi_list ?_; refine we_var rfl ?_; refine ⟨_, rfl, ?_⟩)
        refine ⟨rfl, fun j hj => getD_map hj, by decide, fun j hj G2 st2 => ?_, ?_⟩
        · have hj4 : j < 4 := List.mem_range.mp hj
          have := exN_lt hx hy hj4
          refine ⟨_, _, ?_, wg_name, ?_⟩
          · intro j hj; exact hj
          · (refine we_op ?_; refine we_var rfl ?_; refine we_var rfl ?_)
            refine ot_ixT (getD_key (i := exN x y j) (by omega)) ?_
            rfl
        · (refine wa_nil ?_; refine ct_tuple ?_)
          refine ⟨?_, ?_⟩
          · show _ = rTup K ((exK x y t.1).map rInt)
            unfold exK
            rw [List.map_map]
            rfl
          (refine we_var rfl ?_)
          rfl
    · have e1 : A'.map (fun t => (exK x y t.1, rInt t.2)) = mI (exF A' x y) := by
        show _ = ((A'.map fun t => (exK x y t.1, t.2)).map fun e => (e.1, rInt e.2))
        rw [List.map_map]
        rfl
      have tb : Tb (exF A' x y) := ⟨exF_nd hx hy hA.n4 nd, exF_n4 _ _ _⟩
      rw [e1, mI_foldM, foldM_tb tb]
      (refine wa_nil ?_)
      refine ⟨exF A' x y, rfl, fun e he z => ?_, ?_, hk⟩
      · have := exF_n4 A' x y e he
        rw [z] at this
        cases this
      · rw [sizeLine_eq]
        show (A'.map _).length ≤ _
        rw [List.length_map]
        omega
/-! systems -/
def InU (b : B4) (n : Nat) : Prop := ∀ j, j < 4 → n ≤ j → b.at j = 0
def S_is_in (P : Program) (w : World) (K : PySem.W.Frag) : Spc := fun rs k => ∃ (C : Addr) (A : PT) (b : B4) (n : Nat), rs = [rPT K C A, rInt (n : Int)] ∧ PolyC K C ∧ Bx b A ∧ InU b n ∧ 0 < n ∧ n ≤ 4 ∧ A.length ≤ 16777000 ∧ k (rBl true)
theorem ok_is_in {P : Program} {w : World} {K : PySem.W.Frag} {mg : Str → Option Value} {base : Heap} {f : Addr} {fd : FuncData} (T : Txt K mg) (F : FunD K "is_in" "is_in" (defArgs s_is_in) (defBody s_is_in) (defScope s_is_in) [] [] f fd)  (np : ∀ H, SqT K H (He.ga K "NO_POWERS") ([0, 0, 0, 0].map V.int)) :
    FnOk P w K mg base CX0 1 f fd ["poly", "many"] (spOf (S_is_in P w K)) := by
  refine F.ok sc_is_in (len_of (by intro rs k h; first | (obtain ⟨e, _⟩ := h; subst e; exact rfl) | (obtain ⟨_, e, _⟩ := h; subst e; exact rfl) | (obtain ⟨_, _, e, _⟩ := h; subst e; exact rfl) | (obtain ⟨_, _, _, e, _⟩ := h; subst e; exact rfl) | (obtain ⟨_, _, _, _, e, _⟩ := h; subst e; exact rfl) | (obtain ⟨_, _, _, _, _, e, _⟩ := h; subst e; exact rfl) | (obtain ⟨_, _, _, _, _, _, e, _⟩ := h; subst e; exact rfl) | (obtain ⟨_, _, _, _, _, _, _, e, _⟩ := h; subst e; exact rfl) | (obtain ⟨_, _, _, _, _, _, _, _, e, _⟩ := h; subst e; exact rfl) | (obtain ⟨_, _, _, _, _, _, _, _, _, e, _⟩ := h; subst e; exact rfl) | (obtain ⟨_, _, _, _, _, _, _, _, _, _, e, _⟩ := h; subst e; exact rfl) | (obtain ⟨_, _, _, _, _, _, _, _, _, _, _, e, _⟩ := h; subst e; exact rfl) | (obtain ⟨_, _, _, _, _, _, _, _, _, _, _, _, e, _⟩ := h; subst e; exact rfl))) (fun cdv A outer s H vs Q E hr h => ?_)
  
  refine ⟨_, PSs.nox (pss_cons (ps_ret (pe_callB (k_all (K := K) rfl rfl) rfl T.b_all boot_all (pa_cons (pe_frz (pe_lc (own := [("powers", 2), ("count", 3)]) (g := gTup K 2 (gCons (gName 2) (gCons (gName 3) gNil))) (tt := tYes) rfl sc_is_in.nd (q_tup (K := K) rfl (q_fld (K := K) rfl (pv 0) rfl)) (blkOk_by (own := [("powers", 2), ("count", 3)]) (N := ["poly", "many", "powers", "count"]) (sc := defScope s_is_in) (by decide +kernel)) (fun _ _ _ _ _ => (q_gtup (K := K) rfl rfl (pgs_cons (pg_name (i := 2) sc_is_in.nd rfl (by first | exact Or.inl rfl | exact Or.inr rfl)) (pgs_cons (pg_name (i := 3) sc_is_in.nd rfl (by first | exact Or.inl rfl | exact Or.inr rfl)) pgs_nil)))) (fun _ _ _ _ _ => pts_nil) (fun _ _ _ _ _ => (pe_cmpR (k_eqD (K := K) rfl hr.units) (pe_slice (k_slT (K := K) rfl) (pv 2) (po_some (pv 1)) po_none) (pe_slice (k_slT (K := K) rfl) (pe_glob (v := .ref (He.ga K "NO_POWERS")) rfl T.c_NO_POWERS rfl) (po_some (pv 1)) po_none) (nomark _))))) pa_nil))) pss_nil), ?_⟩
  refine read_of P w K h rfl fun rs k D hs hD hN => ?_
  obtain ⟨C, A', b, n, rfl, hC, hA, hu, h0, hn, hz, hk⟩ := hs
  (refine ws_retS (by assumption) ?_; (first | refine we_cb ?_ | refine we_xlen ?_); refine wa_cons ?_; refine we_frzL ?_)
  refine wl_lcM A' (g := fun t => rTup K [rKey K t.1, rInt t.2]) (h := fun t => rBl true) ?_
  (refine wi_tup ?_; refine we_fld ?_; refine we_var rfl ?_)
  refine ⟨C, _, rTms K A', rfl, hC.cl, hC.na, rfl, _, rfl, by rw [List.length_map], fun i hi => getD_map hi, by rw [sizeLine_eq]; omega, fun t ht G' st' => ?_, ?_⟩
  · refine ⟨_, _, ?_, wg_tup rfl (wgs_cons wg_name (wgs_cons wg_name wgs_nil)), ?_⟩
    · intro j hj; exact hj
    · (refine we_op ?_; refine we_slT ?_; refine we_var rfl ?_; refine ⟨_, rfl, ?_⟩; refine wo_some ?_; refine we_var rfl ?_; refine ⟨_, rfl, ?_⟩; refine wo_none ?_; refine we_slT ?_)
      refine we_cr (rKey K [0, 0, 0, 0]) (fun H _ => rKey_of (np H)) ?_
      (refine ⟨_, rfl, ?_⟩; refine wo_some ?_; refine we_var rfl ?_; refine ⟨_, rfl, ?_⟩; refine wo_none ?_)
      have e : cutR t.1 (some (n : Int)) none = cutR [0, 0, 0, 0] (some (n : Int)) none := by
        obtain ⟨x1, x2, x3, x4, e1, g1, g2, g3, g4⟩ := hA t ht
        rw [e1]
        have u0 := hu 0 (by decide)
        have u1 := hu 1 (by decide)
        have u2 := hu 2 (by decide)
        have u3 := hu 3 (by decide)
        have u1' : n ≤ 1 → b.b = 0 := u1
        have u2' : n ≤ 2 → b.c = 0 := u2
        have u3' : n ≤ 3 → b.d = 0 := u3
        match n, h0, hn with
        | 1, _, _ =>
          have e2 : x2 = 0 := by have := u1' (by decide); omega
          have e3 : x3 = 0 := by have := u2' (by decide); omega
          have e4 : x4 = 0 := by have := u3' (by decide); omega
          rw [e2, e3, e4]
          rfl
        | 2, _, _ =>
          have e3 : x3 = 0 := by have := u2' (by decide); omega
          have e4 : x4 = 0 := by have := u3' (by decide); omega
          rw [e3, e4]
          rfl
        | 3, _, _ =>
          have e4 : x4 = 0 := by have := u3' (by decide); omega
          rw [e4]
          rfl
        | 4, _, _ => rfl
      rw [cutR_map, cutR_map, e]
      refine ot_eqK ?_
      rw [decide_eq_true rfl]
  · (refine wa_nil ?_)
    refine ct_allE (A'.map fun _ => true) (by rw [List.map_map]; rfl) ?_
    rw [show (A'.map fun _ => true).all id = true by rw [List.all_map]; exact List.all_eq_true.mpr fun _ _ => rfl]
    exact hk
def S_is_poly_in (P : Program) (w : World) (K : PySem.W.Frag) : Spc := S_is_in P w K
theorem ok_is_poly_in {P : Program} {w : World} {K : PySem.W.Frag} {mg : Str → Option Value} {base : Heap} {f : Addr} {fd fd_is_in : FuncData} (T : Txt K mg) (F : FunD K "is_poly_in" "is_poly_in" (defArgs s_is_poly_in) (defBody s_is_poly_in) (defScope s_is_poly_in) [] [] f fd) (c_is_in : Callee P w K mg base (He.ga K "is_in") fd_is_in ["poly", "many"] 1 (spOf (S_is_in P w K)))  :
    FnOk P w K mg base CX0 2 f fd ["thing", "many"] (spOf (S_is_poly_in P w K)) := by
  refine F.ok sc_is_poly_in (len_of (by intro rs k h; first | (obtain ⟨e, _⟩ := h; subst e; exact rfl) | (obtain ⟨_, e, _⟩ := h; subst e; exact rfl) | (obtain ⟨_, _, e, _⟩ := h; subst e; exact rfl) | (obtain ⟨_, _, _, e, _⟩ := h; subst e; exact rfl) | (obtain ⟨_, _, _, _, e, _⟩ := h; subst e; exact rfl) | (obtain ⟨_, _, _, _, _, e, _⟩ := h; subst e; exact rfl) | (obtain ⟨_, _, _, _, _, _, e, _⟩ := h; subst e; exact rfl) | (obtain ⟨_, _, _, _, _, _, _, e, _⟩ := h; subst e; exact rfl) | (obtain ⟨_, _, _, _, _, _, _, _, e, _⟩ := h; subst e; exact rfl) | (obtain ⟨_, _, _, _, _, _, _, _, _, e, _⟩ := h; subst e; exact rfl) | (obtain ⟨_, _, _, _, _, _, _, _, _, _, e, _⟩ := h; subst e; exact rfl) | (obtain ⟨_, _, _, _, _, _, _, _, _, _, _, e, _⟩ := h; subst e; exact rfl) | (obtain ⟨_, _, _, _, _, _, _, _, _, _, _, _, e, _⟩ := h; subst e; exact rfl))) (fun cdv A outer s H vs Q E hr h => ?_)
  
  refine ⟨_, PSs.nox (pss_cons (ps_ret (pe_and (pe_callB (k_isi (P := P) (w := w) (K := K) rfl rfl rfl) rfl T.b_isinstance boot_isinstance (pa_cons (pv 0) (pa_cons (pe_glob (v := .ref (He.ga K "Poly")) rfl T.c_Poly rfl) pa_nil))) (pe_one (pe_call (c_is_in.F.mono (by decide)) hr rfl T.g_is_in c_is_in.kp c_is_in.b .nil pass0 (pa_cons (pv 0) (pa_cons (pv 1) pa_nil)))))) pss_nil), ?_⟩
  refine read_of P w K h rfl fun rs k D hs hD hN => ?_
  obtain ⟨C, A', b, n, rfl, hC, hA, hu, h0, hn, hz, hk⟩ := hs
  (refine ws_retS (by assumption) ?_; refine we_andV ?_; (first | refine we_cb ?_ | refine we_xlen ?_); refine wa_cons ?_; refine we_var rfl ?_; refine wa_cons ?_)
  refine we_c ?_
  (refine wa_nil ?_)
  refine ct_isi hC.ty (.own _) hC.ki ?_
  (refine ⟨_, rfl, ?_⟩; refine ⟨fun _ => ?_, fun z => Bool.noConfusion (show true = false from by first | exact z | exact z.symm)⟩; refine we_call ?_; refine wa_cons ?_; refine we_var rfl ?_; refine wa_cons ?_; refine we_var rfl ?_; refine wa_nil ?_)
  exact ⟨C, A', b, n, rfl, hC, hA, hu, h0, hn, hz, hk⟩
/-- polynomials of a system -/
structure PoS (K : PySem.W.Frag) where
  C : Addr
  A : PT
def rPo {K : PySem.W.Frag} (p : PoS K) : Rel := rPT K p.C p.A
structure PoOk (K : PySem.W.Frag) (b : B4) (p : PoS K) : Prop where
  c : PolyC K p.C
  bx : Bx b p.A
  len : p.A.length ≤ 16777000
def S_check_polys (P : Program) (w : World) (K : PySem.W.Frag) : Spc := fun rs k => ∃ (L : List (PoS K)) (b : B4) (n : Nat) (x y : Str), rs = [rTup K (L.map rPo), rInt (n : Int), rStr x, rStr y] ∧ L.length ≤ 6 ∧ (∀ p ∈ L, PoOk K b p) ∧ InU b n ∧ 0 < n ∧ n ≤ 4 ∧ k rNon
theorem ok_check_polys {P : Program} {w : World} {K : PySem.W.Frag} {mg : Str → Option Value} {base : Heap} {f : Addr} {fd fd_is_poly_in : FuncData} (T : Txt K mg) (F : FunD K "check_polys" "check_polys" (defArgs s_check_polys) (defBody s_check_polys) (defScope s_check_polys) [] [] f fd) (c_is_poly_in : Callee P w K mg base (He.ga K "is_poly_in") fd_is_poly_in ["thing", "many"] 2 (spOf (S_is_poly_in P w K)))  :
    FnOk P w K mg base CX0 3 f fd ["thing", "many", "one", "all_of_them"] (spOf (S_check_polys P w K)) := by
  refine F.ok sc_check_polys (len_of (by intro rs k h; first | (obtain ⟨e, _⟩ := h; subst e; exact rfl) | (obtain ⟨_, e, _⟩ := h; subst e; exact rfl) | (obtain ⟨_, _, e, _⟩ := h; subst e; exact rfl) | (obtain ⟨_, _, _, e, _⟩ := h; subst e; exact rfl) | (obtain ⟨_, _, _, _, e, _⟩ := h; subst e; exact rfl) | (obtain ⟨_, _, _, _, _, e, _⟩ := h; subst e; exact rfl) | (obtain ⟨_, _, _, _, _, _, e, _⟩ := h; subst e; exact rfl) | (obtain ⟨_, _, _, _, _, _, _, e, _⟩ := h; subst e; exact rfl) | (obtain ⟨_, _, _, _, _, _, _, _, e, _⟩ := h; subst e; exact rfl) | (obtain ⟨_, _, _, _, _, _, _, _, _, e, _⟩ := h; subst e; exact rfl) | (obtain ⟨_, _, _, _, _, _, _, _, _, _, e, _⟩ := h; subst e; exact rfl) | (obtain ⟨_, _, _, _, _, _, _, _, _, _, _, e, _⟩ := h; subst e; exact rfl) | (obtain ⟨_, _, _, _, _, _, _, _, _, _, _, _, e, _⟩ := h; subst e; exact rfl))) (fun cdv A outer s H vs Q E hr h => ?_)
  
  refine ⟨_, PSs.nox (pss_cons (ps_if (PW.pt (pw_or (pt_not (pt_val (pe_callB (k_isi (P := P) (w := w) (K := K) rfl rfl rfl) rfl T.b_isinstance boot_isinstance (pa_cons (pv 0) (pa_cons (pe_bltn (v := .ty "tuple") rfl T.b_tuple boot_tuple rfl) pa_nil))))) (pw_or1 (pt_cmpR op_gt (pe_callB (k_len (K := K) rfl) rfl T.b_len boot_len (pa_cons (pv 0) pa_nil)) (pe_glob (v := .int 6) rfl T.c_MOST_POLYS.choose_spec ⟨_, rfl⟩) (nomark _))))) (pss_cons ps_no pss_nil) pss_nil) (pss_cons (ps_for PassesOwn.never rfl (q_enumT (K := K) rfl rfl T.b_enumerate (pa_cons (pv 0) pa_nil)) (q_gtup (K := K) rfl rfl (pgs_cons (pg_name (i := 4) sc_check_polys.nd rfl (by first | exact Or.inl rfl | exact Or.inr rfl)) (pgs_cons (pg_name (i := 5) sc_check_polys.nd rfl (by first | exact Or.inl rfl | exact Or.inr rfl)) pgs_nil))) (pss_cons (ps_if (pt_not (pt_val (pe_call (c_is_poly_in.F.mono (by decide)) hr rfl T.g_is_poly_in c_is_poly_in.kp c_is_poly_in.b .nil pass0 (pa_cons (pv 5) (pa_cons (pv 1) pa_nil))))) (pss_cons ps_no pss_nil) pss_nil) pss_nil)) pss_nil)), ?_⟩
  refine read_of P w K h rfl fun rs k D hs hD hN => ?_
  obtain ⟨L, b, n, x, y, rfl, hl, hp, hu, h0, hn, hk⟩ := hs
  (refine ws_if ?_; refine wt_or ?_; refine wt_not ?_; refine wt_B ?_; (first | refine we_cb ?_ | refine we_xlen ?_); refine wa_cons ?_; refine we_var rfl ?_; refine wa_cons ?_; refine we_c ?_; refine wa_nil ?_)
  refine ct_isi ty_tup (.ty _) (k_tt _) ?_
  (refine ⟨_, rfl, ?_⟩; refine ⟨fun z => Bool.noConfusion (show true = false from by first | exact z | exact z.symm), fun _ => ?_⟩; refine wt_test ?_; refine we_op ?_; (first | refine we_cb ?_ | refine we_xlen ?_); refine wa_cons ?_; refine we_var rfl ?_; refine wa_nil ?_; (first | refine ct_lenT ?_ | refine ct_lenL ?_); refine we_c ?_; refine ot_I0 ?_; refine ⟨_, rfl, ?_⟩)
  rw [List.length_map, decide_eq_false (show ¬ (6 : Int) < (L.length : Int) by omega)]
  refine ⟨fun z => Bool.noConfusion z, fun _ => ?_⟩
  ((first | exact ws_end (by assumption) (by assumption) | refine ws_thru ?_))
  refine ws_forP (List.range L.length) (g := fun j => rTup K [rInt (j : Int), (L.map rPo).getD j (rC .non)]) (fun _ (_ : Unit) => True) () (fun _ => [.im (rTup K (L.map rPo)), .im (rInt (n : Int)), .im (rStr x), .im (rStr y), .no, .no]) ?_
  (refine wi_enumT ?_; refine wa_cons ?_; refine we_var rfl ?_; refine wa_nil ?_; refine ⟨_, rfl, ?_⟩)
  refine ⟨by rw [List.length_map, List.length_range], fun i hi => by rw [List.getElem_range], by (repeat' (first | exact Weak.nil | apply Weak.eq | apply Weak.no)), trivial, fun j hj s hI G st => ?_, fun s hI => ?_⟩
  · rw [List.getElem_range]
    rw [List.length_range] at hj
    refine ⟨_, _, wg_tup rfl (wgs_cons wg_name (wgs_cons wg_name wgs_nil)), ?_⟩
    have e : (L.map rPo).getD j (rC .non) = rPo L[j] := getD_map hj
    rw [e]
    have q := hp _ (List.getElem_mem hj)
    (refine ws_if ?_; refine wt_not ?_; refine wt_B ?_; refine we_call ?_; refine wa_cons ?_; refine we_var rfl ?_; refine wa_cons ?_; refine we_var rfl ?_; refine wa_nil ?_)
    refine ⟨L[j].C, L[j].A, b, n, rfl, q.c, q.bx, hu, h0, hn, q.len, ?_⟩
    (refine ⟨_, rfl, ?_⟩; refine ⟨fun z => Bool.noConfusion (show true = false from by first | exact z | exact z.symm), fun _ => ?_⟩; (first | exact ws_end (by assumption) (by assumption) | refine ws_thru ?_))
    exact ws_nextI rfl () trivial (by (repeat' (first | exact Weak.nil | apply Weak.eq | apply Weak.no)))
  · ((first | exact ws_end (by assumption) (by assumption) | refine ws_thru ?_))
end Lw
set_option Elab.async false
set_option linter.all false
set_option maxRecDepth 100000
set_option maxHeartbeats 1000000
namespace Lw
open PySem PySem.Spec PyProof.Rows L2 BX
theorem ndx_po {K : PySem.W.Frag} (L : List (PoS K)) : Ndx (rTup K (L.map rPo)) := ndx_tup fun r hr => by
  obtain ⟨p, _, rfl⟩ := List.mem_map.mp hr
  exact ndx_ins (by simp) fun q hq => by
    rw [List.mem_singleton.mp hq]
    exact ndx_tms
def syF (K : PySem.W.Frag) (n : Nat) (E B : List (PoS K)) : List (Str × Rel) := [("many", rInt (n : Int)), ("equations", rTup K (E.map rPo)), ("barred", rTup K (B.map rPo))]
structure SyOk (K : PySem.W.Frag) (b : B4) (n : Nat) (E B : List (PoS K)) : Prop where
  u : InU b n
  e6 : E.length ≤ 6
  b6 : B.length ≤ 6
  e : ∀ p ∈ E, PoOk K b p
  b : ∀ p ∈ B, PoOk K b p
  n0 : 0 < n
  n3 : n ≤ 3
def S_System_init (P : Program) (w : World) (K : PySem.W.Frag) : List Rel → List (Str × Rel) → Prop := fun rs fs => ∃ (n : Nat) (E B : List (PoS K)) (b : B4), rs = [rInt (n : Int), rTup K (E.map rPo), rTup K (B.map rPo)] ∧ SyOk K b n E B ∧ fs = syF K n E B
theorem ok_System_init {P : Program} {w : World} {K : PySem.W.Frag} {mg : Str → Option Value} {base : Heap} {f : Addr} {fd fd_check_polys fd_is_within : FuncData} (T : Txt K mg) (F : FunD K "__init__" "System.__init__" (defArgs s_System_init) (defBody s_System_init) (defScope s_System_init) [] [] f fd) (c_check_polys : Callee P w K mg base (He.ga K "check_polys") fd_check_polys ["thing", "many", "one", "all_of_them"] 3 (spOf (S_check_polys P w K))) (c_is_within : Callee P w K mg base (He.ga K "is_within") fd_is_within ["thing", "least", "most"] 2 (spOf (S_is_within P w K))) (cs : Cls K (He.ga K "System")) (nm : NoAttr K (He.ga K "System") "many") (ne : NoAttr K (He.ga K "System") "equations") (nb : NoAttr K (He.ga K "System") "barred") :
    FnOk P w K mg base CX0 4 f fd ["self", "many", "equations", "barred"] (spMk (He.ga K "System") (S_System_init P w K)) := by
  refine F.ok sc_System_init (len_mk (by intro rs k h; first | (obtain ⟨e, _⟩ := h; subst e; exact rfl) | (obtain ⟨_, e, _⟩ := h; subst e; exact rfl) | (obtain ⟨_, _, e, _⟩ := h; subst e; exact rfl) | (obtain ⟨_, _, _, e, _⟩ := h; subst e; exact rfl) | (obtain ⟨_, _, _, _, e, _⟩ := h; subst e; exact rfl) | (obtain ⟨_, _, _, _, _, e, _⟩ := h; subst e; exact rfl) | (obtain ⟨_, _, _, _, _, _, e, _⟩ := h; subst e; exact rfl) | (obtain ⟨_, _, _, _, _, _, _, e, _⟩ := h; subst e; exact rfl) | (obtain ⟨_, _, _, _, _, _, _, _, e, _⟩ := h; subst e; exact rfl) | (obtain ⟨_, _, _, _, _, _, _, _, _, e, _⟩ := h; subst e; exact rfl) | (obtain ⟨_, _, _, _, _, _, _, _, _, _, e, _⟩ := h; subst e; exact rfl) | (obtain ⟨_, _, _, _, _, _, _, _, _, _, _, e, _⟩ := h; subst e; exact rfl) | (obtain ⟨_, _, _, _, _, _, _, _, _, _, _, _, e, _⟩ := h; subst e; exact rfl))) (fun cdv A outer s H vs Q E hr h => ?_)
  
  refine ⟨_, PSs.nox (pss_cons (ps_if (pt_not (pt_val (pe_call (c_is_within.F.mono (by decide)) hr rfl T.g_is_within c_is_within.kp c_is_within.b .nil pass0 (pa_cons (pv 1) (pa_cons pe_int (pa_cons (pe_glob (v := .int 3) rfl T.c_MOST_UNKNOWNS.choose_spec ⟨_, rfl⟩) pa_nil)))))) (pss_cons ps_no pss_nil) pss_nil) (pss_cons (ps_expr (pe_call (c_check_polys.F.mono (by decide)) hr rfl T.g_check_polys c_check_polys.kp c_check_polys.b .nil pass0 (pa_cons (pv 2) (pa_cons (pv 1) (pa_cons pe_str (pa_cons pe_str pa_nil)))))) (pss_cons (ps_expr (pe_call (c_check_polys.F.mono (by decide)) hr rfl T.g_check_polys c_check_polys.kp c_check_polys.b .nil pass0 (pa_cons (pv 3) (pa_cons (pv 1) (pa_cons pe_str (pa_cons pe_str pa_nil)))))) (pss_cons (q_sfld (K := K) rfl (pv 0) (pv 1) rfl) (pss_cons (q_sfld (K := K) rfl (pv 0) (pv 2) rfl) (pss_cons (q_sfld (K := K) rfl (pv 0) (pv 3) rfl) pss_nil)))))), ?_⟩
  refine mk_of P w K h rfl fun rs fs D x dx hs hD => ?_
  obtain ⟨n, E', B', b, rfl, ok, rfl⟩ := hs
  have h1 := ok.n0
  have h2 := ok.n3
  (refine ws_if ?_; refine wt_not ?_; refine wt_B ?_; refine we_call ?_; refine wa_cons ?_; refine we_var rfl ?_; refine wa_cons ?_; refine we_c ?_; refine wa_cons ?_; refine we_c ?_; refine wa_nil ?_)
  refine ⟨_, _, _, rfl, ?_⟩
  rw [decide_eq_true (show (1 : Int) ≤ (n : Int) by omega), decide_eq_true (show (n : Int) ≤ 3 by omega)]
  refine ⟨_, rfl, fun z => Bool.noConfusion (show false = true from z), fun _ => ?_⟩
  ((first | exact ws_end (by assumption) (by assumption) | refine ws_thru ?_); (first | refine ws_app rfl ?_ | refine ws_drop ?_); refine we_call ?_; refine wa_cons ?_; refine we_var rfl ?_; refine wa_cons ?_; refine we_var rfl ?_; refine wa_cons ?_; refine we_c ?_; refine wa_cons ?_; refine we_c ?_; refine wa_nil ?_)
  refine ⟨E', b, n, _, _, rfl, ok.e6, ok.e, ok.u, ok.n0, by omega, ?_⟩
  ((first | refine ws_app rfl ?_ | refine ws_drop ?_); refine we_call ?_; refine wa_cons ?_; refine we_var rfl ?_; refine wa_cons ?_; refine we_var rfl ?_; refine wa_cons ?_; refine we_c ?_; refine wa_cons ?_; refine we_c ?_; refine wa_nil ?_)
  refine ⟨B', b, n, _, _, rfl, ok.b6, ok.b, ok.u, ok.n0, by omega, ?_⟩
  exact ws_fld3 rfl rfl rfl rfl hD (fun _ h => h) cs nm ne nb ndx_c (ndx_po _) (ndx_po _) (fun _ _ _ => rfl) (fun _ => Nat.le_of_ble_eq_true rfl) (fun _ _ => Nat.le_of_ble_eq_true rfl)
def S_is_point (P : Program) (w : World) (K : PySem.W.Frag) : Spc := fun rs k => ∃ ps : List Rat, rs = [rTup K (ps.map (rQ K)), rInt (ps.length : Int)] ∧ ps.length ≤ 4 ∧ k (rBl true)
theorem ok_is_point {P : Program} {w : World} {K : PySem.W.Frag} {mg : Str → Option Value} {base : Heap} {f : Addr} {fd fd_is_fraction : FuncData} (T : Txt K mg) (F : FunD K "is_point" "is_point" (defArgs s_is_point) (defBody s_is_point) (defScope s_is_point) [] [] f fd) (c_is_fraction : Callee P w K mg base (He.ga K "is_fraction") fd_is_fraction ["thing"] 2 (spOf (S_is_fraction P w K)))  :
    FnOk P w K mg base CX0 3 f fd ["thing", "many"] (spOf (S_is_point P w K)) := by
  refine F.ok sc_is_point (len_of (by intro rs k h; first | (obtain ⟨e, _⟩ := h; subst e; exact rfl) | (obtain ⟨_, e, _⟩ := h; subst e; exact rfl) | (obtain ⟨_, _, e, _⟩ := h; subst e; exact rfl) | (obtain ⟨_, _, _, e, _⟩ := h; subst e; exact rfl) | (obtain ⟨_, _, _, _, e, _⟩ := h; subst e; exact rfl) | (obtain ⟨_, _, _, _, _, e, _⟩ := h; subst e; exact rfl) | (obtain ⟨_, _, _, _, _, _, e, _⟩ := h; subst e; exact rfl) | (obtain ⟨_, _, _, _, _, _, _, e, _⟩ := h; subst e; exact rfl) | (obtain ⟨_, _, _, _, _, _, _, _, e, _⟩ := h; subst e; exact rfl) | (obtain ⟨_, _, _, _, _, _, _, _, _, e, _⟩ := h; subst e; exact rfl) | (obtain ⟨_, _, _, _, _, _, _, _, _, _, e, _⟩ := h; subst e; exact rfl) | (obtain ⟨_, _, _, _, _, _, _, _, _, _, _, e, _⟩ := h; subst e; exact rfl) | (obtain ⟨_, _, _, _, _, _, _, _, _, _, _, _, e, _⟩ := h; subst e; exact rfl))) (fun cdv A outer s H vs Q E hr h => ?_)
  
  refine ⟨_, PSs.nox (pss_cons (ps_ret (pe_and (pe_callB (k_isi (P := P) (w := w) (K := K) rfl rfl rfl) rfl T.b_isinstance boot_isinstance (pa_cons (pv 0) (pa_cons (pe_bltn (v := .ty "tuple") rfl T.b_tuple boot_tuple rfl) pa_nil))) (pe_and (pe_cmpR op_eq (pe_callB (k_len (K := K) rfl) rfl T.b_len boot_len (pa_cons (pv 0) pa_nil)) (pv 1) (nomark _)) (pe_one (pe_callB (k_all (K := K) rfl rfl) rfl T.b_all boot_all (pa_cons (pe_frz (pe_lc (own := [("place", 2)]) (g := gName 2) (tt := tYes) rfl sc_is_point.nd (q_tup (K := K) rfl (pv 0)) (blkOk_by (own := [("place", 2)]) (N := ["thing", "many", "place"]) (sc := defScope s_is_point) (by decide +kernel)) (fun _ _ _ _ _ => (pg_name (i := 2) sc_is_point.nd rfl (by first | exact Or.inl rfl | exact Or.inr rfl))) (fun _ _ _ _ _ => pts_nil) (fun _ _ _ _ _ => (pe_call (c_is_fraction.F.mono (by decide)) hr rfl T.g_is_fraction c_is_fraction.kp c_is_fraction.b .nil pass0 (pa_cons (pv 2) pa_nil))))) pa_nil)))))) pss_nil), ?_⟩
  refine read_of P w K h rfl fun rs k D hs hD hN => ?_
  obtain ⟨ps, rfl, hl, hk⟩ := hs
  (refine ws_retS (by assumption) ?_; refine we_andV ?_; (first | refine we_cb ?_ | refine we_xlen ?_); refine wa_cons ?_; refine we_var rfl ?_; refine wa_cons ?_; refine we_c ?_; refine wa_nil ?_)
  refine ct_isi ty_tup (.ty _) (k_tt _) ?_
  (refine ⟨_, rfl, ?_⟩; refine ⟨fun _ => ?_, fun z => Bool.noConfusion (show true = false from by first | exact z | exact z.symm)⟩; refine we_andV ?_; refine we_op ?_; (first | refine we_cb ?_ | refine we_xlen ?_); refine wa_cons ?_; refine we_var rfl ?_; refine wa_nil ?_; (first | refine ct_lenT ?_ | refine ct_lenL ?_); refine we_var rfl ?_; refine ot_eq rfl ?_; refine ⟨_, rfl, ?_⟩)
  rw [List.length_map, decide_eq_true (rfl : V.int (ps.length : Int) = _)]
  (refine ⟨fun _ => ?_, fun z => Bool.noConfusion (show true = false from by first | exact z | exact z.symm)⟩; (first | refine we_cb ?_ | refine we_xlen ?_); refine wa_cons ?_; refine we_frzL ?_)
  refine wl_lcM ps (g := rQ K) (h := fun _ => rBl true) ?_
  (refine wi_tup ?_; refine we_var rfl ?_; refine ⟨_, rfl, ?_⟩)
  refine ⟨by rw [List.length_map], fun i hi => getD_map hi, by rw [sizeLine_eq]; omega, fun q hq G st => ?_, ?_⟩
  · refine ⟨_, _, ?_, wg_name, ?_⟩
    · intro j hj; exact hj
    · (refine we_call ?_; refine wa_cons ?_; refine we_var rfl ?_; refine wa_nil ?_)
      exact ⟨q, rfl, rfl⟩
  (refine wa_nil ?_)
  refine ct_allE (ps.map fun _ => true) (by rw [List.map_map]; rfl) ?_
  rw [show (ps.map fun _ => true).all id = true by rw [List.all_map]; exact List.all_eq_true.mpr fun _ _ => rfl]
  exact hk
def S_whole_point (P : Program) (w : World) (K : PySem.W.Frag) : Spc := fun rs k => ∃ ps : List Rat, rs = [rTup K (ps.map (rQ K))] ∧ ps.length = 3 ∧ k (rTup K ((ps ++ [0]).map (rQ K)))
theorem ok_whole_point {P : Program} {w : World} {K : PySem.W.Frag} {mg : Str → Option Value} {base : Heap} {f : Addr} {fd : FuncData} (T : Txt K mg) (F : FunD K "whole_point" "whole_point" (defArgs s_whole_point) (defBody s_whole_point) (defScope s_whole_point) [] [] f fd)  (nz0 : ∀ H, SqT K H (He.ga K "ZERO") ([0, 1].map V.int)) :
    FnOk P w K mg base CX0 1 f fd ["point"] (spOf (S_whole_point P w K)) := by
  refine F.ok sc_whole_point (len_of (by intro rs k h; first | (obtain ⟨e, _⟩ := h; subst e; exact rfl) | (obtain ⟨_, e, _⟩ := h; subst e; exact rfl) | (obtain ⟨_, _, e, _⟩ := h; subst e; exact rfl) | (obtain ⟨_, _, _, e, _⟩ := h; subst e; exact rfl) | (obtain ⟨_, _, _, _, e, _⟩ := h; subst e; exact rfl) | (obtain ⟨_, _, _, _, _, e, _⟩ := h; subst e; exact rfl) | (obtain ⟨_, _, _, _, _, _, e, _⟩ := h; subst e; exact rfl) | (obtain ⟨_, _, _, _, _, _, _, e, _⟩ := h; subst e; exact rfl) | (obtain ⟨_, _, _, _, _, _, _, _, e, _⟩ := h; subst e; exact rfl) | (obtain ⟨_, _, _, _, _, _, _, _, _, e, _⟩ := h; subst e; exact rfl) | (obtain ⟨_, _, _, _, _, _, _, _, _, _, e, _⟩ := h; subst e; exact rfl) | (obtain ⟨_, _, _, _, _, _, _, _, _, _, _, e, _⟩ := h; subst e; exact rfl) | (obtain ⟨_, _, _, _, _, _, _, _, _, _, _, _, e, _⟩ := h; subst e; exact rfl))) (fun cdv A outer s H vs Q E hr h => ?_)
  
  refine ⟨_, PSs.nox (pss_cons (ps_ret (pe_op (k_catT (K := K) rfl) (pv 0) (pe_op (k_rep1 (K := K) rfl) (pe_tup (pa_cons (pe_glob (v := .ref (He.ga K "ZERO")) rfl T.c_ZERO rfl) pa_nil)) (pe_op op_sub (pe_glob (v := .int 4) rfl T.c_UNKNOWNS.choose_spec ⟨_, rfl⟩) (pe_callB (k_len (K := K) rfl) rfl T.b_len boot_len (pa_cons (pv 0) pa_nil)))))) pss_nil), ?_⟩
  refine read_of P w K h rfl fun rs k D hs hD hN => ?_
  obtain ⟨ps, rfl, hl, hk⟩ := hs
  (refine ws_retS (by assumption) ?_; refine we_op ?_; refine we_var rfl ?_; refine we_op ?_; refine we_tup ?_; refine wa_cons ?_)
  refine we_cr (rKey K [0, 1]) (fun H _ => rKey_of (nz0 H)) ?_
  (refine wa_nil ?_; refine ⟨Nat.le_of_ble_eq_true rfl, ?_⟩; refine we_op ?_; refine we_c ?_; (first | refine we_cb ?_ | refine we_xlen ?_); refine wa_cons ?_; refine we_var rfl ?_; refine wa_nil ?_; (first | refine ct_lenT ?_ | refine ct_lenL ?_); refine ot_I0 ?_)
  rw [List.length_map, hl]
  refine ot_rep1 ?_
  refine ot_catT (by rw [List.length_map, hl]; show 3 + 1 ≤ sizeLine; decide) ?_
  rw [List.map_append] at hk
  exact hk
/-- what is known of the worth of a system's polynomials -/
structure WoOk (K : PySem.W.Frag) (b : B4) (ps : List Rat) (a c : Nat) (L : List (PoS K)) : Prop where
  p : PsB a ps
  a0 : 0 < a
  sz : a * eB b + c + a + 1 ≤ 490000
  ok : ∀ p ∈ L, PoOk K b p
  l1 : ∀ p ∈ L, l1 p.A < 2 ^ c
  six : L.length ≤ 6
theorem rQ_zero (q : Rat) : decide ([q.num, (q.den : Int)] = [0, 1]) = decide (q = 0) := by
  rw [decide_eq_decide]
  constructor
  · intro h
    have h1 : q.num = 0 := by injection h
    exact Rat.num_eq_zero.mp h1
  · intro h
    subst h
    rfl
def S_is_root_of (P : Program) (w : World) (K : PySem.W.Frag) : Spc := fun rs k => ∃ (E B : List (PoS K)) (ps : List Rat) (b : B4) (a c : Nat), rs = [rTup K (E.map rPo), rTup K (B.map rPo), rTup K (ps.map (rQ K))] ∧ ps.length = 3 ∧ WoOk K b (ps ++ [0]) a c E ∧ WoOk K b (ps ++ [0]) a c B ∧
  k (rBl ((E.all fun p => decide (wR (ps ++ [0]) p.A = 0)) && (B.all fun p => !decide (wR (ps ++ [0]) p.A = 0))))
theorem ok_is_root_of {P : Program} {w : World} {K : PySem.W.Frag} {mg : Str → Option Value} {base : Heap} {f : Addr} {fd fd_worth_at fd_whole_point : FuncData} (T : Txt K mg) (F : FunD K "is_root_of" "is_root_of" (defArgs s_is_root_of) (defBody s_is_root_of) (defScope s_is_root_of) [] [] f fd) (c_worth_at : Callee P w K mg base (He.ga K "worth_at") fd_worth_at ["poly", "point"] 43 (spOf (S_worth_at P w K))) (c_whole_point : Callee P w K mg base (He.ga K "whole_point") fd_whole_point ["point"] 1 (spOf (S_whole_point P w K))) (nz0 : ∀ H, SqT K H (He.ga K "ZERO") ([0, 1].map V.int)) :
    FnOk P w K mg base CX0 44 f fd ["equations", "barred", "point"] (spOf (S_is_root_of P w K)) := by
  refine F.ok sc_is_root_of (len_of (by intro rs k h; first | (obtain ⟨e, _⟩ := h; subst e; exact rfl) | (obtain ⟨_, e, _⟩ := h; subst e; exact rfl) | (obtain ⟨_, _, e, _⟩ := h; subst e; exact rfl) | (obtain ⟨_, _, _, e, _⟩ := h; subst e; exact rfl) | (obtain ⟨_, _, _, _, e, _⟩ := h; subst e; exact rfl) | (obtain ⟨_, _, _, _, _, e, _⟩ := h; subst e; exact rfl) | (obtain ⟨_, _, _, _, _, _, e, _⟩ := h; subst e; exact rfl) | (obtain ⟨_, _, _, _, _, _, _, e, _⟩ := h; subst e; exact rfl) | (obtain ⟨_, _, _, _, _, _, _, _, e, _⟩ := h; subst e; exact rfl) | (obtain ⟨_, _, _, _, _, _, _, _, _, e, _⟩ := h; subst e; exact rfl) | (obtain ⟨_, _, _, _, _, _, _, _, _, _, e, _⟩ := h; subst e; exact rfl) | (obtain ⟨_, _, _, _, _, _, _, _, _, _, _, e, _⟩ := h; subst e; exact rfl) | (obtain ⟨_, _, _, _, _, _, _, _, _, _, _, _, e, _⟩ := h; subst e; exact rfl))) (fun cdv A outer s H vs Q E hr h => ?_)
  
  refine ⟨_, PSs.nox (pss_cons (ps_set (i := 3) sc_is_root_of.nd rfl (by first | exact Or.inl rfl | exact Or.inr rfl) (pe_call (c_whole_point.F.mono (by decide)) hr rfl T.g_whole_point c_whole_point.kp c_whole_point.b .nil pass0 (pa_cons (pv 2) pa_nil))) (pss_cons (ps_if (pt_not (pt_val (pe_callB (k_all (K := K) rfl rfl) rfl T.b_all boot_all (pa_cons (pe_frz (pe_lc (own := [("poly", 4)]) (g := gName 4) (tt := tYes) rfl sc_is_root_of.nd (q_tup (K := K) rfl (pv 0)) (blkOk_by (own := [("poly", 4)]) (N := ["equations", "barred", "point", "whole", "poly"]) (sc := defScope s_is_root_of) (by decide +kernel)) (fun _ _ _ _ _ => (pg_name (i := 4) sc_is_root_of.nd rfl (by first | exact Or.inl rfl | exact Or.inr rfl))) (fun _ _ _ _ _ => pts_nil) (fun _ _ _ _ _ => (pe_cmpR (k_eqD (K := K) rfl hr.units) (pe_call (c_worth_at.F.mono (by decide)) hr rfl T.g_worth_at c_worth_at.kp c_worth_at.b .nil pass0 (pa_cons (pv 4) (pa_cons (pv 3) pa_nil))) (pe_glob (v := .ref (He.ga K "ZERO")) rfl T.c_ZERO rfl) (nomark _))))) pa_nil)))) (pss_cons (ps_ret pe_bl) pss_nil) pss_nil) (pss_cons (ps_ret (pe_callB (k_all (K := K) rfl rfl) rfl T.b_all boot_all (pa_cons (pe_frz (pe_lc (own := [("poly", 4)]) (g := gName 4) (tt := tYes) rfl sc_is_root_of.nd (q_tup (K := K) rfl (pv 1)) (blkOk_by (own := [("poly", 4)]) (N := ["equations", "barred", "point", "whole", "poly"]) (sc := defScope s_is_root_of) (by decide +kernel)) (fun _ _ _ _ _ => (pg_name (i := 4) sc_is_root_of.nd rfl (by first | exact Or.inl rfl | exact Or.inr rfl))) (fun _ _ _ _ _ => pts_nil) (fun _ _ _ _ _ => (pe_cmpR (k_neD (K := K) rfl hr.units) (pe_call (c_worth_at.F.mono (by decide)) hr rfl T.g_worth_at c_worth_at.kp c_worth_at.b .nil pass0 (pa_cons (pv 4) (pa_cons (pv 3) pa_nil))) (pe_glob (v := .ref (He.ga K "ZERO")) rfl T.c_ZERO rfl) (nomark _))))) pa_nil))) pss_nil))), ?_⟩
  refine read_of P w K h rfl fun rs k D hs hD hN => ?_
  obtain ⟨E', B', ps, b, a, c, rfl, hl, hE, hB, hk⟩ := hs
  ((first | refine ws_asg ?_ | refine ws_asgG ?_); refine we_call ?_; refine wa_cons ?_; refine we_var rfl ?_; refine wa_nil ?_)
  refine ⟨ps, rfl, hl, ?_⟩
  (refine ws_if ?_; refine wt_not ?_; refine wt_B ?_; (first | refine we_cb ?_ | refine we_xlen ?_); refine wa_cons ?_; refine we_frzL ?_)
  refine wl_lcM E' (g := rPo) (h := fun p => rBl (decide (wR (ps ++ [0]) p.A = 0))) ?_
  (refine wi_tup ?_; refine we_var rfl ?_; refine ⟨_, rfl, ?_⟩)
  refine ⟨by rw [List.length_map], fun i hi => getD_map hi, by rw [sizeLine_eq]; have := hE.six; omega, fun p hp G st => ?_, ?_⟩
  · have q := hE.ok p hp
    refine ⟨_, _, ?_, wg_name, ?_⟩
    · intro j hj; exact hj
    · (refine we_op ?_; refine we_call ?_; refine wa_cons ?_; refine we_var rfl ?_; refine wa_cons ?_; refine we_var rfl ?_; refine wa_nil ?_)
      refine ⟨p.C, p.A, b, ps ++ [0], a, c, rfl, q.c, q.bx, hE.p, hE.l1 p hp, hE.a0, hE.sz, q.len, ?_⟩
      refine we_cr (rKey K [0, 1]) (fun H _ => rKey_of (nz0 H)) ?_
      refine ot_eqK ?_
      rw [rQ_zero]
  (refine wa_nil ?_)
  refine ct_allE (E'.map fun p => decide (wR (ps ++ [0]) p.A = 0)) (by rw [List.map_map]; rfl) ?_
  rw [List.all_map]
  cases hc : E'.all fun p => decide (wR (ps ++ [0]) p.A = 0) with
  | false =>
    have e : (E'.all (id ∘ fun p => decide (wR (ps ++ [0]) p.A = 0))) = false := hc
    rw [hc, Bool.false_and] at hk
    rw [e]
    (refine ⟨_, rfl, ?_⟩; refine ⟨fun _ => ?_, fun z => Bool.noConfusion (show true = false from by first | exact z | exact z.symm)⟩; refine ws_retS (by assumption) ?_; refine we_c ?_)
    exact hk
  | true =>
    have e : (E'.all (id ∘ fun p => decide (wR (ps ++ [0]) p.A = 0))) = true := hc
    rw [hc, Bool.true_and] at hk
    rw [e]
    (refine ⟨_, rfl, ?_⟩; refine ⟨fun z => Bool.noConfusion (show true = false from by first | exact z | exact z.symm), fun _ => ?_⟩; (first | exact ws_end (by assumption) (by assumption) | refine ws_thru ?_); refine ws_retS (by assumption) ?_; (first | refine we_cb ?_ | refine we_xlen ?_); refine wa_cons ?_; refine we_frzL ?_)
    refine wl_lcM B' (g := rPo) (h := fun p => rBl (!decide (wR (ps ++ [0]) p.A = 0))) ?_
    (refine wi_tup ?_; refine we_var rfl ?_; refine ⟨_, rfl, ?_⟩)
    refine ⟨by rw [List.length_map], fun i hi => getD_map hi, by rw [sizeLine_eq]; have := hB.six; omega, fun p hp G st => ?_, ?_⟩
    · have q := hB.ok p hp
      refine ⟨_, _, ?_, wg_name, ?_⟩
      · intro j hj; exact hj
      · (refine we_op ?_; refine we_call ?_; refine wa_cons ?_; refine we_var rfl ?_; refine wa_cons ?_; refine we_var rfl ?_; refine wa_nil ?_)
        refine ⟨p.C, p.A, b, ps ++ [0], a, c, rfl, q.c, q.bx, hB.p, hB.l1 p hp, hB.a0, hB.sz, q.len, ?_⟩
        refine we_cr (rKey K [0, 1]) (fun H _ => rKey_of (nz0 H)) ?_
        refine ot_neK ?_
        rw [rQ_zero]
    (refine wa_nil ?_)
    refine ct_allE (B'.map fun p => !decide (wR (ps ++ [0]) p.A = 0)) (by rw [List.map_map]; rfl) ?_
    rw [List.all_map]
    exact hk
def rSy (K : PySem.W.Frag) (n : Nat) (E B : List (PoS K)) : Rel := rIns (He.ga K "System") (syF K n E B)
def S_is_root (P : Program) (w : World) (K : PySem.W.Frag) : Spc := fun rs k => ∃ (E B : List (PoS K)) (ps : List Rat) (b : B4) (a c : Nat), rs = [rSy K 3 E B, rTup K (ps.map (rQ K))] ∧ ps.length = 3 ∧ WoOk K b (ps ++ [0]) a c E ∧ WoOk K b (ps ++ [0]) a c B ∧
  k (rBl ((E.all fun p => decide (wR (ps ++ [0]) p.A = 0)) && (B.all fun p => !decide (wR (ps ++ [0]) p.A = 0))))
theorem ok_is_root {P : Program} {w : World} {K : PySem.W.Frag} {mg : Str → Option Value} {base : Heap} {f : Addr} {fd fd_is_root_of fd_is_point : FuncData} (T : Txt K mg) (F : FunD K "is_root" "is_root" (defArgs s_is_root) (defBody s_is_root) (defScope s_is_root) [] [] f fd) (c_is_root_of : Callee P w K mg base (He.ga K "is_root_of") fd_is_root_of ["equations", "barred", "point"] 44 (spOf (S_is_root_of P w K))) (c_is_point : Callee P w K mg base (He.ga K "is_point") fd_is_point ["thing", "many"] 3 (spOf (S_is_point P w K))) (cs : Cls K (He.ga K "System")) (nm : NoAttr K (He.ga K "System") "many") (ne : NoAttr K (He.ga K "System") "equations") (nb : NoAttr K (He.ga K "System") "barred") :
    FnOk P w K mg base CX0 45 f fd ["system", "thing"] (spOf (S_is_root P w K)) := by
  refine F.ok sc_is_root (len_of (by intro rs k h; first | (obtain ⟨e, _⟩ := h; subst e; exact rfl) | (obtain ⟨_, e, _⟩ := h; subst e; exact rfl) | (obtain ⟨_, _, e, _⟩ := h; subst e; exact rfl) | (obtain ⟨_, _, _, e, _⟩ := h; subst e; exact rfl) | (obtain ⟨_, _, _, _, e, _⟩ := h; subst e; exact rfl) | (obtain ⟨_, _, _, _, _, e, _⟩ := h; subst e; exact rfl) | (obtain ⟨_, _, _, _, _, _, e, _⟩ := h; subst e; exact rfl) | (obtain ⟨_, _, _, _, _, _, _, e, _⟩ := h; subst e; exact rfl) | (obtain ⟨_, _, _, _, _, _, _, _, e, _⟩ := h; subst e; exact rfl) | (obtain ⟨_, _, _, _, _, _, _, _, _, e, _⟩ := h; subst e; exact rfl) | (obtain ⟨_, _, _, _, _, _, _, _, _, _, e, _⟩ := h; subst e; exact rfl) | (obtain ⟨_, _, _, _, _, _, _, _, _, _, _, e, _⟩ := h; subst e; exact rfl) | (obtain ⟨_, _, _, _, _, _, _, _, _, _, _, _, e, _⟩ := h; subst e; exact rfl))) (fun cdv A outer s H vs Q E hr h => ?_)
  
  refine ⟨_, PSs.nox (pss_cons (ps_ret (pe_and (pe_call (c_is_point.F.mono (by decide)) hr rfl T.g_is_point c_is_point.kp c_is_point.b .nil pass0 (pa_cons (pv 1) (pa_cons (q_fld (K := K) rfl (pv 0) rfl) pa_nil))) (pe_one (pe_call (c_is_root_of.F.mono (by decide)) hr rfl T.g_is_root_of c_is_root_of.kp c_is_root_of.b .nil pass0 (pa_cons (q_fld (K := K) rfl (pv 0) rfl) (pa_cons (q_fld (K := K) rfl (pv 0) rfl) (pa_cons (pv 1) pa_nil))))))) pss_nil), ?_⟩
  refine read_of P w K h rfl fun rs k D hs hD hN => ?_
  obtain ⟨E', B', ps, b, a, c, rfl, hl, hE, hB, hk⟩ := hs
  (refine ws_retS (by assumption) ?_; refine we_andV ?_; refine we_call ?_; refine wa_cons ?_; refine we_var rfl ?_; refine wa_cons ?_; refine we_fld ?_; refine we_var rfl ?_)
  refine ⟨_, syF K 3 E' B', rInt ((3 : Nat) : Int), rfl, cs, nm, rfl, ?_⟩
  (refine wa_nil ?_)
  refine ⟨ps, by rw [hl], by omega, ?_⟩
  (refine ⟨_, rfl, ?_⟩; refine ⟨fun _ => ?_, fun z => Bool.noConfusion (show true = false from by first | exact z | exact z.symm)⟩; refine we_call ?_; refine wa_cons ?_; refine we_fld ?_; refine we_var rfl ?_)
  refine ⟨_, syF K 3 E' B', rTup K (E'.map rPo), rfl, cs, ne, rfl, ?_⟩
  (refine wa_cons ?_; refine we_fld ?_; refine we_var rfl ?_)
  refine ⟨_, syF K 3 E' B', rTup K (B'.map rPo), rfl, cs, nb, rfl, ?_⟩
  (refine wa_cons ?_; refine we_var rfl ?_; refine wa_nil ?_)
  exact ⟨E', B', ps, b, a, c, rfl, hl, hE, hB, hk⟩
end Lw
set_option Elab.async false
set_option linter.all false
set_option maxRecDepth 100000
set_option maxHeartbeats 1000000
namespace Lw
open PySem PySem.Spec PyProof.Rows L2 BX
/-- the other one, and the answer -/
def EqO (K : PySem.W.Frag) (A : PT) (r : Rel) (b : Bool) : Prop := (∃ (C2 : Addr) (B : PT), PolyC K C2 ∧ r = rPT K C2 B ∧ b = decide (A = B)) ∨ ∃ us : List Rel, PySem.W.kitOne K (.type "tuple") (.ref (CP K)) = some false ∧ r = rTup K us ∧ b = false
def S_Poly_eq2 (P : Program) (w : World) (K : PySem.W.Frag) : Spc := fun rs k => ∃ (C : Addr) (A : PT) (r : Rel) (b : Bool), rs = [rPT K C A, r] ∧ PolyC K C ∧ EqO K A r b ∧ k (rBl b)
theorem ok_Poly_eq {P : Program} {w : World} {K : PySem.W.Frag} {mg : Str → Option Value} {base : Heap} {f : Addr} {fd : FuncData} (T : Txt K mg) (F : FunD K "__eq__" "Poly.__eq__" (defArgs s_Poly_eq) (defBody s_Poly_eq) (defScope s_Poly_eq) [] [] f fd)   :
    FnOk P w K mg base CX0 1 f fd ["self", "other"] (spOf (S_Poly_eq2 P w K)) := by
  refine F.ok sc_Poly_eq (len_of (by intro rs k h; first | (obtain ⟨e, _⟩ := h; subst e; exact rfl) | (obtain ⟨_, e, _⟩ := h; subst e; exact rfl) | (obtain ⟨_, _, e, _⟩ := h; subst e; exact rfl) | (obtain ⟨_, _, _, e, _⟩ := h; subst e; exact rfl) | (obtain ⟨_, _, _, _, e, _⟩ := h; subst e; exact rfl) | (obtain ⟨_, _, _, _, _, e, _⟩ := h; subst e; exact rfl) | (obtain ⟨_, _, _, _, _, _, e, _⟩ := h; subst e; exact rfl) | (obtain ⟨_, _, _, _, _, _, _, e, _⟩ := h; subst e; exact rfl) | (obtain ⟨_, _, _, _, _, _, _, _, e, _⟩ := h; subst e; exact rfl) | (obtain ⟨_, _, _, _, _, _, _, _, _, e, _⟩ := h; subst e; exact rfl) | (obtain ⟨_, _, _, _, _, _, _, _, _, _, e, _⟩ := h; subst e; exact rfl) | (obtain ⟨_, _, _, _, _, _, _, _, _, _, _, e, _⟩ := h; subst e; exact rfl) | (obtain ⟨_, _, _, _, _, _, _, _, _, _, _, _, e, _⟩ := h; subst e; exact rfl))) (fun cdv A outer s H vs Q E hr h => ?_)
  
  refine ⟨_, PSs.nox (pss_cons (ps_ret (pe_and (pe_callB (k_isi (P := P) (w := w) (K := K) rfl rfl rfl) rfl T.b_isinstance boot_isinstance (pa_cons (pv 1) (pa_cons (pe_glob (v := .ref (He.ga K "Poly")) rfl T.c_Poly rfl) pa_nil))) (pe_one (pe_cmpR (k_eqD (K := K) rfl hr.units) (q_fld (K := K) rfl (pv 0) rfl) (q_fld (K := K) rfl (pv 1) rfl) (nomark _))))) pss_nil), ?_⟩
  refine read_of P w K h rfl fun rs k D hs hD hN => ?_
  obtain ⟨C, A', r, b, rfl, hC, hs, hk⟩ := hs
  rcases hs with ⟨C2, B', hC2, rfl, rfl⟩ | ⟨us, hn, rfl, rfl⟩
  · (refine ws_retS (by assumption) ?_; refine we_andV ?_; (first | refine we_cb ?_ | refine we_xlen ?_); refine wa_cons ?_; refine we_var rfl ?_; refine wa_cons ?_)
    refine we_c ?_
    (refine wa_nil ?_)
    refine ct_isi hC2.ty (.own _) hC2.ki ?_
    (refine ⟨_, rfl, ?_⟩; refine ⟨fun _ => ?_, fun z => Bool.noConfusion (show true = false from by first | exact z | exact z.symm)⟩; refine we_op ?_; refine we_fld ?_; refine we_var rfl ?_)
    refine ⟨_, _, rTms K A', rfl, hC.cl, hC.na, rfl, ?_⟩
    (refine we_fld ?_; refine we_var rfl ?_)
    refine ⟨_, _, rTms K B', rfl, hC2.cl, hC2.na, rfl, ?_⟩
    exact ot_eqTms hk
  · (refine ws_retS (by assumption) ?_; refine we_andV ?_; (first | refine we_cb ?_ | refine we_xlen ?_); refine wa_cons ?_; refine we_var rfl ?_; refine wa_cons ?_)
    refine we_c ?_
    (refine wa_nil ?_)
    refine ct_isi ty_tup (.own _) hn ?_
    (refine ⟨_, rfl, ?_⟩; refine ⟨fun z => Bool.noConfusion (show true = false from by first | exact z | exact z.symm), fun _ => ?_⟩)
    exact hk
def S_L_top (P : Program) (w : World) (K : PySem.W.Frag) : Spc := fun rs k => ∃ (A : PT) (b : B4), rs = [rDI P w K A] ∧ Bx b A ∧ A.length ≤ 16777000 ∧ k (rTop (topL A 4))
theorem top_last (A : PT) : ∀ j, topL A j = ((List.range j).filter fun i => decide (0 < degP A i)).getLast?
  | 0 => rfl
  | j + 1 => by
    rw [List.range_succ, List.filter_append]
    show (if 0 < degP A j then some j else topL A j) = _
    by_cases h : 0 < degP A j
    · rw [if_pos h, List.filter_cons, if_pos (decide_eq_true h), List.filter_nil, List.getLast?_append]
      rfl
    · rw [if_neg h, List.filter_cons, if_neg (by rw [decide_eq_false h]; decide), List.filter_nil, List.append_nil, top_last A j]
theorem atI_last {α : Type} (xs : List α) (x : α) : atI (xs ++ [x]) (-1) = some x := by
  unfold atI ixN
  rw [List.length_append, if_neg (by omega), if_pos (by show -((xs.length + 1 : Nat) : Int) ≤ -1; omega)]
  show (xs ++ [x])[_]? = _
  rw [show (-1 + ((xs.length + [x].length : Nat) : Int)).toNat = xs.length by show (-1 + ((xs.length + 1 : Nat) : Int)).toNat = _; omega, List.getElem?_append_right (Nat.le_refl _), Nat.sub_self]
  rfl
theorem ok_L_top {P : Program} {w : World} {K : PySem.W.Frag} {mg : Str → Option Value} {base : Heap} {f : Addr} {fd fd_L_degree : FuncData} (T : Txt K mg) (F : FunD K "_law_top" "_law_top" (defArgs s_L_top) (defBody s_L_top) (defScope s_L_top) [] [] f fd) (c_L_degree : Callee P w K mg base (He.ga K "_law_degree") fd_L_degree ["_law_poly", "_law_k"] 1 (spOf (S_L_degree P w K)))  :
    FnOk P w K mg base CX0 2 f fd ["_law_poly"] (spOf (S_L_top P w K)) := by
  refine F.ok sc_L_top (len_of (by intro rs k h; first | (obtain ⟨e, _⟩ := h; subst e; exact rfl) | (obtain ⟨_, e, _⟩ := h; subst e; exact rfl) | (obtain ⟨_, _, e, _⟩ := h; subst e; exact rfl) | (obtain ⟨_, _, _, e, _⟩ := h; subst e; exact rfl) | (obtain ⟨_, _, _, _, e, _⟩ := h; subst e; exact rfl) | (obtain ⟨_, _, _, _, _, e, _⟩ := h; subst e; exact rfl) | (obtain ⟨_, _, _, _, _, _, e, _⟩ := h; subst e; exact rfl) | (obtain ⟨_, _, _, _, _, _, _, e, _⟩ := h; subst e; exact rfl) | (obtain ⟨_, _, _, _, _, _, _, _, e, _⟩ := h; subst e; exact rfl) | (obtain ⟨_, _, _, _, _, _, _, _, _, e, _⟩ := h; subst e; exact rfl) | (obtain ⟨_, _, _, _, _, _, _, _, _, _, e, _⟩ := h; subst e; exact rfl) | (obtain ⟨_, _, _, _, _, _, _, _, _, _, _, e, _⟩ := h; subst e; exact rfl) | (obtain ⟨_, _, _, _, _, _, _, _, _, _, _, _, e, _⟩ := h; subst e; exact rfl))) (fun cdv A outer s H vs Q E hr h => ?_)
  
  refine ⟨_, PSs.nox (pss_cons (ps_setLc (i := 1) (own := [("_law_k", 2)]) (g := gName 2) rfl sc_L_top.nd rfl rfl (sw_true rfl rfl rfl (by decide +kernel)) (pi_range1 rfl T.b_range (pa_cons pe_int pa_nil)) (blkOk_by (own := [("_law_k", 2)]) (N := ["_law_poly", "_law_found", "_law_k"]) (sc := defScope s_L_top) (by decide +kernel)) (fun _ _ _ _ _ => (pg_name (i := 2) sc_L_top.nd rfl (by first | exact Or.inl rfl | exact Or.inr rfl))) (fun _ _ _ _ _ => (pts_one (pt_cmpR op_gt (pe_call (c_L_degree.F.mono (by decide)) hr rfl T.g_L_degree c_L_degree.kp c_L_degree.b .nil pass0 (pa_cons (pv 0) (pa_cons (pv 2) pa_nil))) pe_int (nomark _)))) (fun _ _ _ _ _ => (pv 2))) (pss_frz 1 (pss_cons (ps_ret (pe_ifExp (pt_cmpR op_gt (pe_callB (k_len (K := K) rfl) rfl T.b_len boot_len (pa_cons (pv 1) pa_nil)) pe_int (nomark _)) (pe_ix (k_ixL (K := K) rfl) (pv 1) (pe_un un_neg pe_int) (fun _ _ => rfl)) pe_non)) pss_nil))), ?_⟩
  refine read_of P w K h rfl fun rs k D hs hD hN => ?_
  obtain ⟨A', b, rfl, hA, hz, hk⟩ := hs
  (refine ws_asgL ?_)
  refine wl_lcF (List.range 4) (g := fun j => rInt (j : Int)) (f := fun j => if 0 < degP A' j then some j else none) (h := fun j => rInt (j : Int)) ?_
  (refine wi_rng1 ?_; refine wa_cons ?_; refine we_c ?_; refine wa_nil ?_; refine ⟨_, rfl, ?_⟩)
  refine ⟨by decide, by decide, rfl, fun j hj => by rw [List.getElem_range], by decide, fun j hj G st => ?_, ?_⟩
  · have hj4 : j < 4 := List.mem_range.mp hj
    refine ⟨_, _, ?_, wg_name, ?_⟩
    · intro j hj; exact hj
    · (refine wt_test ?_; refine we_op ?_; refine we_call ?_; refine wa_cons ?_; refine we_var rfl ?_; refine wa_cons ?_; refine we_var rfl ?_; refine wa_nil ?_)
      refine ⟨A', b, j, rfl, hA, hj4, hz, ?_⟩
      (refine we_c ?_; refine ot_I0 ?_; refine ⟨_, rfl, ?_⟩)
      refine ⟨fun z => ?_, fun z => ?_⟩
      · have := of_decide_eq_true z
        refine ⟨j, by rw [if_pos (by omega)], ?_⟩
        (refine we_var rfl ?_)
        rfl
      · have := of_decide_eq_false z
        rw [if_neg (by omega)]
  · have e : (List.range 4).filterMap (fun j => if 0 < degP A' j then some j else none) = (List.range 4).filter fun i => decide (0 < degP A' i) := by
      generalize List.range 4 = L
      induction L with
      | nil => rfl
      | cons j L ih =>
        rw [List.filterMap_cons, List.filter_cons]
        by_cases h : 0 < degP A' j
        · rw [if_pos h, if_pos (decide_eq_true h)]
          show j :: _ = _
          rw [ih]
        · rw [if_neg h, if_neg (by rw [decide_eq_false h]; decide)]
          exact ih
    rw [e]
    rw [top_last] at hk
    generalize (List.range 4).filter (fun i => decide (0 < degP A' i)) = L at hk ⊢
    rcases List.eq_nil_or_concat L with rfl | ⟨M, x, rfl⟩
    · ((first | refine ws_frzX rfl ?_ | refine ws_frzL rfl ?_); refine ws_retS (by assumption) ?_; refine we_if ?_; refine wt_test ?_; refine we_op ?_; (first | refine we_cb ?_ | refine we_xlen ?_); refine wa_cons ?_; refine we_var rfl ?_; refine wa_nil ?_; (first | refine ct_lenT ?_ | refine ct_lenL ?_); refine we_c ?_; refine ot_I0 ?_; refine ⟨_, rfl, ?_⟩)
      rw [decide_eq_false (show ¬ (0 : Int) < ((([] : List Nat).map fun j : Nat => rInt (j : Int)).length : Int) by decide)]
      (refine ⟨fun z => Bool.noConfusion (show true = false from by first | exact z | exact z.symm), fun _ => ?_⟩; refine we_c ?_)
      exact hk
    · rw [List.concat_eq_append] at hk ⊢
      rw [List.getLast?_append] at hk
      have hk : k (rInt (x : Int)) := hk
      ((first | refine ws_frzX rfl ?_ | refine ws_frzL rfl ?_); refine ws_retS (by assumption) ?_; refine we_if ?_; refine wt_test ?_; refine we_op ?_; (first | refine we_cb ?_ | refine we_xlen ?_); refine wa_cons ?_; refine we_var rfl ?_; refine wa_nil ?_; (first | refine ct_lenT ?_ | refine ct_lenL ?_); refine we_c ?_; refine ot_I0 ?_; refine ⟨_, rfl, ?_⟩)
      rw [decide_eq_true (show (0 : Int) < ((((M ++ [x]).map fun j : Nat => rInt (j : Int)).length : Nat) : Int) by rw [List.length_map, List.length_append]; show (0 : Int) < ((M.length + 1 : Nat) : Int); omega)]
      (refine ⟨fun _ => ?_, fun z => Bool.noConfusion (show true = false from by first | exact z | exact z.symm)⟩; refine we_op ?_; refine we_var rfl ?_; refine we_un ?_; refine we_c ?_; refine ut_I ?_)
      refine ot_ixL (r := rInt (x : Int)) ?_ hk
      rw [List.map_append]
      exact atI_last _ _
def S_L_slope (P : Program) (w : World) (K : PySem.W.Frag) : Spc := fun rs k => ∃ (A : PT) (b : B4) (i n : Nat), rs = [rDI P w K A, rInt (i : Int)] ∧ Bx b A ∧ (A.map (·.1)).Nodup ∧ BdP n A ∧ 0 < n ∧ n ≤ 450000 ∧ b.at i < 2 ^ 64 ∧ i < 4 ∧ A.length ≤ 16777000 ∧ k (rDI P w K (slF A i))
theorem ok_L_slope {P : Program} {w : World} {K : PySem.W.Frag} {mg : Str → Option Value} {base : Heap} {f : Addr} {fd : FuncData} (T : Txt K mg) (F : FunD K "_law_slope" "_law_slope" (defArgs s_L_slope) (defBody s_L_slope) (defScope s_L_slope) [] [] f fd)   :
    FnOk P w K mg base CX0 1 f fd ["_law_poly", "_law_k"] (spOf (S_L_slope P w K)) := by
  refine F.ok sc_L_slope (len_of (by intro rs k h; first | (obtain ⟨e, _⟩ := h; subst e; exact rfl) | (obtain ⟨_, e, _⟩ := h; subst e; exact rfl) | (obtain ⟨_, _, e, _⟩ := h; subst e; exact rfl) | (obtain ⟨_, _, _, e, _⟩ := h; subst e; exact rfl) | (obtain ⟨_, _, _, _, e, _⟩ := h; subst e; exact rfl) | (obtain ⟨_, _, _, _, _, e, _⟩ := h; subst e; exact rfl) | (obtain ⟨_, _, _, _, _, _, e, _⟩ := h; subst e; exact rfl) | (obtain ⟨_, _, _, _, _, _, _, e, _⟩ := h; subst e; exact rfl) | (obtain ⟨_, _, _, _, _, _, _, _, e, _⟩ := h; subst e; exact rfl) | (obtain ⟨_, _, _, _, _, _, _, _, _, e, _⟩ := h; subst e; exact rfl) | (obtain ⟨_, _, _, _, _, _, _, _, _, _, e, _⟩ := h; subst e; exact rfl) | (obtain ⟨_, _, _, _, _, _, _, _, _, _, _, e, _⟩ := h; subst e; exact rfl) | (obtain ⟨_, _, _, _, _, _, _, _, _, _, _, _, e, _⟩ := h; subst e; exact rfl))) (fun cdv A outer s H vs Q E hr h => ?_)
  
  refine ⟨_, PSs.nox (pss_cons (ps_set (i := 2) sc_L_slope.nd rfl (by first | exact Or.inl rfl | exact Or.inr rfl) (q_new (P := P) (w := w) rfl rfl)) (pss_cons (ps_for PassesOwn.never rfl (q_keys (P := P) (w := w) rfl rfl (pv 0)) (pg_name (i := 3) sc_L_slope.nd rfl (by first | exact Or.inl rfl | exact Or.inr rfl)) (pss_cons (ps_if (pt_cmpR op_gt (pe_ix (k_ixT (K := K) rfl) (pv 3) (pv 1) (fun _ _ => rfl)) pe_int (nomark _)) (pss_cons (q_put (P := P) (w := w) (K := K) rfl rfl rfl (hu_of hr) (pv 2) (pe_op (k_catT (K := K) rfl) (pe_op (k_catT (K := K) rfl) (pe_slice (k_slT (K := K) rfl) (pv 3) po_none (po_some (pv 1))) (pe_tup (pa_cons (pe_op op_sub (pe_ix (k_ixT (K := K) rfl) (pv 3) (pv 1) (fun _ _ => rfl)) pe_int) pa_nil))) (pe_slice (k_slT (K := K) rfl) (pv 3) (po_some (pe_op op_add (pv 1) pe_int)) po_none)) (pe_op op_mulW (q_get (P := P) (w := w) (K := K) rfl rfl rfl (hu_of hr) (pv 0) (pv 3) (fun _ _ => rfl)) (pe_ix (k_ixT (K := K) rfl) (pv 3) (pv 1) (fun _ _ => rfl))) rfl) pss_nil) pss_nil) pss_nil)) (pss_frz 2 (pss_cons (ps_ret (pv 2)) pss_nil)))), ?_⟩
  refine read_of P w K h rfl fun rs k D hs hD hN => ?_
  obtain ⟨A', b, i, n, rfl, hA, nd, hb, hn0, hn, h64, hi, hz, hk⟩ := hs
  (refine ws_asgX ?_; refine wx_new ?_)
  refine ws_forP A' (g := fun t => rKey K t.1) (fun j m => m = slF (A'.take j) i) ([] : PT) (fun m => [.im (rDI P w K A'), .im (rInt (i : Int)), .mx (mI m), .no]) ?_
  (refine wi_xkeys ?_; refine we_var rfl ?_; refine ⟨_, rfl, ?_⟩)
  refine ⟨by rw [List.length_map], fun j hj => by rw [List.map_map]; exact keyD hj, by (repeat' (first | exact Weak.nil | apply Weak.eq | apply Weak.no)), rfl, fun j hj m hm G st => ?_, fun m hm => ?_⟩
  · subst hm
    have hin := hA _ (List.getElem_mem hj)
    have h4 := hin.len
    obtain ⟨p0, p1⟩ := hA.exp (List.getElem_mem hj) hi
    refine ⟨_, _, wg_name, ?_⟩
    (refine ws_if ?_; refine wt_test ?_; refine we_op ?_; refine we_op ?_; refine we_var rfl ?_; refine we_var rfl ?_)
    refine ot_ixT (getD_key (i := i) (by omega)) ?_
    (refine we_c ?_; refine ot_I0 ?_; refine ⟨_, rfl, ?_⟩)
    refine ⟨fun z => ?_, fun z => ?_⟩
    · have hpos := of_decide_eq_true z
      (refine ws_xput rfl ?_; refine we_op ?_; refine we_xget ?_; (first | refine wq_var rfl ?_ | refine wq_e ?_); refine we_var rfl ?_; refine ⟨_, rfl, ?_⟩; refine we_var rfl ?_)
      refine ⟨A'[j].1, _, rfl, get_mem nd (List.getElem_mem hj), ?_⟩
      (refine we_op ?_; refine we_var rfl ?_; refine we_var rfl ?_)
      refine ot_ixT (getD_key (i := i) (by omega)) ?_
      (refine ot_I ?_ ?_)
      · exact wide_mul (hb _ (List.getElem_mem hj)) (Nat.lt_of_le_of_lt (by omega) h64) hn0 (by decide) (by omega)
      (refine we_op ?_; refine we_op ?_; refine we_slT ?_; refine we_var rfl ?_; refine ⟨_, rfl, ?_⟩; refine wo_none ?_; refine wo_some ?_; refine we_var rfl ?_; refine ⟨_, rfl, ?_⟩; refine we_tup ?_; refine wa_cons ?_; refine we_op ?_; refine we_op ?_; refine we_var rfl ?_; refine we_var rfl ?_)
      refine ot_ixT (getD_key (i := i) (by omega)) ?_
      (refine we_c ?_; refine ot_I0 ?_; refine wa_nil ?_; refine ⟨Nat.le_of_ble_eq_true rfl, ?_⟩; refine ot_catT ?_ ?_)
      · exact cut_len h4 hi
      (refine we_slT ?_; refine we_var rfl ?_; refine ⟨_, rfl, ?_⟩; refine wo_some ?_; refine we_op ?_; refine we_var rfl ?_; refine we_c ?_; refine ot_I0 ?_; refine ⟨_, rfl, ?_⟩; refine wo_none ?_; refine ot_catT ?_ ?_)
      · exact cut_len2 h4 hi
      have hl : (mI (slF (A'.take j) i)).length < sizeLine := by
        rw [List.length_map, sizeLine_eq]
        have := slF_len (A'.take j) i
        rw [List.length_take] at this
        omega
      refine ⟨slK i A'[j].1, cut_eq h4 hi, hl, ?_⟩
      have e := slS_take hi hA.n4 nd hj
      unfold slS at e
      rw [if_pos hpos] at e
      refine ws_nextI rfl (slF (A'.take (j + 1)) i) rfl ?_
      rw [← e, show mI (putM (slF (A'.take j) i) (slK i A'[j].1) (A'[j].2 * A'[j].1.getD i 0)) = putM (mI (slF (A'.take j) i)) (slK i A'[j].1) (rInt (A'[j].2 * A'[j].1.getD i 0)) from (putM_map rInt _ _ _).symm]
      (repeat' (first | exact Weak.nil | apply Weak.eq | apply Weak.no))
    · have hneg := of_decide_eq_false z
      skip
      have e := slS_take hi hA.n4 nd hj
      unfold slS at e
      rw [if_neg hneg] at e
      refine ws_nextI rfl (slF (A'.take (j + 1)) i) rfl ?_
      rw [← e]
      (repeat' (first | exact Weak.nil | apply Weak.eq | apply Weak.no))
  · rw [List.take_length] at hm
    subst hm
    ((first | refine ws_frzX rfl ?_ | refine ws_frzL rfl ?_); refine ws_retS (by assumption) ?_; refine we_var rfl ?_)
    exact hk
def S_L_exchanged (P : Program) (w : World) (K : PySem.W.Frag) : Spc := fun rs kk => ∃ (A : PT) (b : B4) (k l : Nat), rs = [rDI P w K A, rInt (k : Int), rInt (l : Int)] ∧ Bx b A ∧ (A.map (·.1)).Nodup ∧ k < 4 ∧ l < 4 ∧ A.length ≤ 16777000 ∧ kk (rDI P w K (exF A k l))
theorem ord_eq {x y : Nat} (hx : x < 4) (hy : y < 4) : ((((List.range 4).map fun i : Nat => rInt (i : Int)).set x (rInt (y : Int))).set y (rInt (x : Int))) = (List.range 4).map fun i => rInt ((exN x y i : Nat) : Int) := by
  match x, y, hx, hy with
  | 0, 0, _, _ => rfl
  | 0, 1, _, _ => rfl
  | 0, 2, _, _ => rfl
  | 0, 3, _, _ => rfl
  | 1, 0, _, _ => rfl
  | 1, 1, _, _ => rfl
  | 1, 2, _, _ => rfl
  | 1, 3, _, _ => rfl
  | 2, 0, _, _ => rfl
  | 2, 1, _, _ => rfl
  | 2, 2, _, _ => rfl
  | 2, 3, _, _ => rfl
  | 3, 0, _, _ => rfl
  | 3, 1, _, _ => rfl
  | 3, 2, _, _ => rfl
  | 3, 3, _, _ => rfl
theorem ok_L_exchanged {P : Program} {w : World} {K : PySem.W.Frag} {mg : Str → Option Value} {base : Heap} {f : Addr} {fd : FuncData} (T : Txt K mg) (F : FunD K "_law_exchanged" "_law_exchanged" (defArgs s_L_exchanged) (defBody s_L_exchanged) (defScope s_L_exchanged) [] [] f fd)   :
    FnOk P w K mg base CX0 1 f fd ["_law_poly", "_law_k", "_law_l"] (spOf (S_L_exchanged P w K)) := by
  refine F.ok sc_L_exchanged (len_of (by intro rs k h; first | (obtain ⟨e, _⟩ := h; subst e; exact rfl) | (obtain ⟨_, e, _⟩ := h; subst e; exact rfl) | (obtain ⟨_, _, e, _⟩ := h; subst e; exact rfl) | (obtain ⟨_, _, _, e, _⟩ := h; subst e; exact rfl) | (obtain ⟨_, _, _, _, e, _⟩ := h; subst e; exact rfl) | (obtain ⟨_, _, _, _, _, e, _⟩ := h; subst e; exact rfl) | (obtain ⟨_, _, _, _, _, _, e, _⟩ := h; subst e; exact rfl) | (obtain ⟨_, _, _, _, _, _, _, e, _⟩ := h; subst e; exact rfl) | (obtain ⟨_, _, _, _, _, _, _, _, e, _⟩ := h; subst e; exact rfl) | (obtain ⟨_, _, _, _, _, _, _, _, _, e, _⟩ := h; subst e; exact rfl) | (obtain ⟨_, _, _, _, _, _, _, _, _, _, e, _⟩ := h; subst e; exact rfl) | (obtain ⟨_, _, _, _, _, _, _, _, _, _, _, e, _⟩ := h; subst e; exact rfl) | (obtain ⟨_, _, _, _, _, _, _, _, _, _, _, _, e, _⟩ := h; subst e; exact rfl))) (fun cdv A outer s H vs Q E hr h => ?_)
  
  refine ⟨_, PSs.nox (pss_cons (ps_set (i := 3) sc_L_exchanged.nd rfl (by first | exact Or.inl rfl | exact Or.inr rfl) (pe_listRg rfl rfl T.b_list (prg_1 rfl T.b_range pe_int))) (pss_cons (ps_asg (pe_tup (pa_cons (pv 2) (pa_cons (pv 1) pa_nil))) (q_gtup (K := K) rfl rfl (pgs_cons (pg_sub (pv 3) (pv 1) set_list) (pgs_cons (pg_sub (pv 3) (pv 2) set_list) pgs_nil)))) (pss_frz 3 (pss_cons (ps_ret (pe_frz (pe_callTy (k_xpairs (P := P) (w := w) (K := K) rfl rfl rfl rfl hr.units) rfl T.b_dict boot_dict (pa_cons (pe_frz (pe_lc (own := [("_law_powers", 4)]) (g := gName 4) (tt := tYes) rfl sc_L_exchanged.nd (q_keys (P := P) (w := w) rfl rfl (pv 0)) (blkOk_by (own := [("_law_powers", 4)]) (N := ["_law_poly", "_law_k", "_law_l", "_law_order", "_law_powers", "_law_other"]) (sc := defScope s_L_exchanged) (by decide +kernel)) (fun _ _ _ _ _ => (pg_name (i := 4) sc_L_exchanged.nd rfl (by first | exact Or.inl rfl | exact Or.inr rfl))) (fun _ _ _ _ _ => pts_nil) (fun _ _ _ _ _ => (pe_tup (pa_cons (pe_callTy (k_tupleOf (K := K) rfl) rfl T.b_tuple boot_tuple (pa_cons (pe_frz (pe_lc (own := [("_law_other", 5)]) (g := gName 5) (tt := tYes) rfl sc_L_exchanged.nd (q_list (K := K) rfl (pv 3)) (blkOk_by (own := [("_law_other", 5)]) (N := ["_law_poly", "_law_k", "_law_l", "_law_order", "_law_powers", "_law_other"]) (by rfl)) (fun _ _ _ _ _ => (pg_name (i := 5) sc_L_exchanged.nd rfl (by first | exact Or.inl rfl | exact Or.inr rfl))) (fun _ _ _ _ _ => pts_nil) (fun _ _ _ _ _ => (pe_ix (k_ixT (K := K) rfl) (pv 4) (pv 5) (fun _ _ => rfl))))) pa_nil)) (pa_cons (q_get (P := P) (w := w) (K := K) rfl rfl rfl (hu_of hr) (pv 0) (pv 4) (fun _ _ => rfl)) pa_nil)))))) pa_nil)))) pss_nil)))), ?_⟩
  refine read_of P w K h rfl fun rs k D hs hD hN => ?_
  obtain ⟨A', b, x, y, rfl, hA, nd, hx, hy, hz, hk⟩ := hs
  refine ws_asgL ?_
  refine wl_listRg ?_
  (refine we_c ?_; refine ⟨_, rfl, ?_⟩; refine ⟨Nat.le_of_ble_eq_true rfl, ?_⟩)
  refine ws_swapL (x := x) (y := y) rfl rfl rfl rfl rfl hx hy ?_
  rw [ord_eq hx hy]
  ((first | refine ws_frzX rfl ?_ | refine ws_frzL rfl ?_); refine ws_retS (by assumption) ?_; (first | (refine we_frzX ?_; refine wx_xpairs ?_) | (refine we_frzL ?_; first | refine wl_xsorted ?_ | refine wl_xitems ?_ | refine wl_listT ?_)); refine we_frzL ?_)
  refine wl_lcM A' (g := fun t => rKey K t.1) (h := fun t => rTup K [rKey K (exK x y t.1), rInt t.2]) ?_
  (refine wi_xkeys ?_; refine we_var rfl ?_; refine ⟨_, rfl, ?_⟩)
  refine ⟨by rw [List.length_map], fun j hj => by rw [List.map_map]; exact keyD hj, by rw [sizeLine_eq]; omega, fun t ht G' st' => ?_, ?_⟩
  · refine ⟨_, _, ?_, wg_name, ?_⟩
    · intro j hj; exact hj
    · have h4 := (hA t ht).len
      (refine we_tup ?_; refine wa_cons ?_; (first | refine we_cb ?_ | refine we_xlen ?_); refine wa_cons ?_; refine we_frzL ?_)
      refine wl_lcM (List.range 4) (g := fun j => rInt ((exN x y j : Nat) : Int)) (h := fun j => rInt (t.1.getD (exN x y j) 0)) ?_
      (refine wi_list ?_; refine we_var rfl ?_; refine ⟨_, rfl, ?_⟩)
      refine ⟨rfl, fun j hj => getD_map hj, by decide, fun j hj G2 st2 => ?_, ?_⟩
      · have hj4 : j < 4 := List.mem_range.mp hj
        have := exN_lt hx hy hj4
        refine ⟨_, _, ?_, wg_name, ?_⟩
        · intro j hj; exact hj
        · (refine we_op ?_; refine we_var rfl ?_; refine we_var rfl ?_)
          refine ot_ixT (getD_key (i := exN x y j) (by omega)) ?_
          rfl
      · (refine wa_nil ?_; refine ct_tuple ?_; refine wa_cons ?_; refine we_xget ?_; (first | refine wq_var rfl ?_ | refine wq_e ?_); refine we_var rfl ?_; refine ⟨_, rfl, ?_⟩; refine we_var rfl ?_)
        refine ⟨t.1, _, rfl, get_mem nd ht, ?_⟩
        (refine wa_nil ?_; refine ⟨Nat.le_of_ble_eq_true rfl, ?_⟩)
        show rTup K [rTup K ((List.range 4).map fun j => rInt (t.1.getD (exN x y j) 0)), rInt t.2] = rTup K [rTup K ((exK x y t.1).map rInt), rInt t.2]
        unfold exK
        rw [List.map_map]
        rfl
  · skip
    refine ⟨mI (exF A' x y), ?_, ?_⟩
    · show rLst _ = rLst (((A'.map fun t => (exK x y t.1, t.2)).map fun e => (e.1, rInt e.2)).map (rEnt K))
      rw [List.map_map, List.map_map]
      rfl
    · have tb : Tb (exF A' x y) := ⟨exF_nd hx hy hA.n4 nd, exF_n4 _ _ _⟩
      rw [mI_foldM, foldM_tb tb]
      exact hk
def S_L_is_poly (P : Program) (w : World) (K : PySem.W.Frag) : Spc := fun rs k => ∃ (C : Addr) (m : PT) (b : B4) (n : Nat), rs = [rPT K C (canon m), rDI P w K m] ∧ PolyC K C ∧ LB b n m ∧ m.length ≤ 16777000 ∧ k (rBl true)
theorem ok_L_is_poly {P : Program} {w : World} {K : PySem.W.Frag} {mg : Str → Option Value} {base : Heap} {f : Addr} {fd : FuncData} (T : Txt K mg) (F : FunD K "_law_is_poly" "_law_is_poly" (defArgs s_L_is_poly) (defBody s_L_is_poly) (defScope s_L_is_poly) [] [] f fd)   :
    FnOk P w K mg base CX0 1 f fd ["_law_told", "_law_due"] (spOf (S_L_is_poly P w K)) := by
  refine F.ok sc_L_is_poly (len_of (by intro rs k h; first | (obtain ⟨e, _⟩ := h; subst e; exact rfl) | (obtain ⟨_, e, _⟩ := h; subst e; exact rfl) | (obtain ⟨_, _, e, _⟩ := h; subst e; exact rfl) | (obtain ⟨_, _, _, e, _⟩ := h; subst e; exact rfl) | (obtain ⟨_, _, _, _, e, _⟩ := h; subst e; exact rfl) | (obtain ⟨_, _, _, _, _, e, _⟩ := h; subst e; exact rfl) | (obtain ⟨_, _, _, _, _, _, e, _⟩ := h; subst e; exact rfl) | (obtain ⟨_, _, _, _, _, _, _, e, _⟩ := h; subst e; exact rfl) | (obtain ⟨_, _, _, _, _, _, _, _, e, _⟩ := h; subst e; exact rfl) | (obtain ⟨_, _, _, _, _, _, _, _, _, e, _⟩ := h; subst e; exact rfl) | (obtain ⟨_, _, _, _, _, _, _, _, _, _, e, _⟩ := h; subst e; exact rfl) | (obtain ⟨_, _, _, _, _, _, _, _, _, _, _, e, _⟩ := h; subst e; exact rfl) | (obtain ⟨_, _, _, _, _, _, _, _, _, _, _, _, e, _⟩ := h; subst e; exact rfl))) (fun cdv A outer s H vs Q E hr h => ?_)
  
  refine ⟨_, PSs.nox (pss_cons (ps_if (PW.pt (pw_or (pt_not (pt_val (pe_callB (k_isi (P := P) (w := w) (K := K) rfl rfl rfl) rfl T.b_isinstance boot_isinstance (pa_cons (pv 0) (pa_cons (pe_glob (v := .ref (He.ga K "Poly")) rfl T.c_Poly rfl) pa_nil))))) (pw_or1 (pt_cmpR (k_neD (K := K) rfl hr.units) (q_fld (K := K) rfl (pv 0) rfl) (pe_callTy (k_tupleOf (K := K) rfl) rfl T.b_tuple boot_tuple (pa_cons (pe_frz (pe_lc (own := [("_law_powers", 2)]) (g := gName 2) (tt := tYes) rfl sc_L_is_poly.nd (q_list (K := K) rfl (pe_frz (pe_callB (k_xsorted (P := P) (w := w) (K := K) rfl rfl rfl rfl hr.units) rfl T.b_sorted boot_sorted (pa_cons (pv 1) pa_nil)))) (blkOk_by (own := [("_law_powers", 2)]) (N := ["_law_told", "_law_due", "_law_powers", "_law_count"]) (sc := defScope s_L_is_poly) (by decide +kernel)) (fun _ _ _ _ _ => (pg_name (i := 2) sc_L_is_poly.nd rfl (by first | exact Or.inl rfl | exact Or.inr rfl))) (fun _ _ _ _ _ => pts_nil) (fun _ _ _ _ _ => (pe_tup (pa_cons (pv 2) (pa_cons (q_get (P := P) (w := w) (K := K) rfl rfl rfl (hu_of hr) (pv 1) (pv 2) (fun _ _ => rfl)) pa_nil)))))) pa_nil)) (nomark _))))) (pss_cons (ps_ret pe_bl) pss_nil) pss_nil) (pss_cons (ps_ret (pe_not (pe_callB (k_any (K := K) rfl rfl) rfl T.b_any boot_any (pa_cons (pe_frz (pe_lc (own := [("_law_powers", 2), ("_law_count", 3)]) (g := gTup K 2 (gCons (gName 2) (gCons (gName 3) gNil))) (tt := tYes) rfl sc_L_is_poly.nd (q_tup (K := K) rfl (q_fld (K := K) rfl (pv 0) rfl)) (blkOk_by (own := [("_law_powers", 2), ("_law_count", 3)]) (N := ["_law_told", "_law_due", "_law_powers", "_law_count"]) (sc := defScope s_L_is_poly) (by decide +kernel)) (fun _ _ _ _ _ => (q_gtup (K := K) rfl rfl (pgs_cons (pg_name (i := 2) sc_L_is_poly.nd rfl (by first | exact Or.inl rfl | exact Or.inr rfl)) (pgs_cons (pg_name (i := 3) sc_L_is_poly.nd rfl (by first | exact Or.inl rfl | exact Or.inr rfl)) pgs_nil)))) (fun _ _ _ _ _ => pts_nil) (fun _ _ _ _ _ => (pe_callB (k_isi (P := P) (w := w) (K := K) rfl rfl rfl) rfl T.b_isinstance boot_isinstance (pa_cons (pv 3) (pa_cons (pe_bltn (v := .ty "bool") rfl T.b_bool boot_bool rfl) pa_nil)))))) pa_nil)))) pss_nil)), ?_⟩
  refine read_of P w K h rfl fun rs k D hs hD hN => ?_
  obtain ⟨C, m, b, n, rfl, hC, hm, hz, hk⟩ := hs
  (refine ws_if ?_; refine wt_or ?_; refine wt_not ?_; refine wt_B ?_; (first | refine we_cb ?_ | refine we_xlen ?_); refine wa_cons ?_; refine we_var rfl ?_; refine wa_cons ?_)
  refine we_c ?_
  (refine wa_nil ?_)
  refine ct_isi hC.ty (.own _) hC.ki ?_
  (refine ⟨_, rfl, ?_⟩; refine ⟨fun z => Bool.noConfusion (show true = false from by first | exact z | exact z.symm), fun _ => ?_⟩; refine wt_test ?_; refine we_op ?_; refine we_fld ?_; refine we_var rfl ?_)
  refine ⟨_, _, rTms K (canon m), rfl, hC.cl, hC.na, rfl, ?_⟩
  ((first | refine we_cb ?_ | refine we_xlen ?_); refine wa_cons ?_; refine we_frzL ?_)
  have hz' : ((m.map (·.1)).mergeSort keyLe).length ≤ sizeLine := by
    rw [List.length_mergeSort, List.length_map, sizeLine_eq]
    omega
  refine wl_lcM ((m.map (·.1)).mergeSort keyLe) (g := rKey K) (h := fun x => rTup K [rKey K x, rInt (cf m x)]) ?_
  (refine wi_list ?_; (first | (refine we_frzX ?_; refine wx_xpairs ?_) | (refine we_frzL ?_; first | refine wl_xsorted ?_ | refine wl_xitems ?_ | refine wl_listT ?_)); (first | refine wq_var rfl ?_ | refine wq_e ?_); refine we_var rfl ?_; refine ⟨_, rfl, ?_⟩)
  refine ⟨fun p hp => ?_, ?_⟩
  · obtain ⟨e, he, rfl⟩ := List.mem_map.mp hp
    intro z
    have := (hm.bx e he).len
    rw [show e.1 = [] from z] at this
    cases this
  rw [mI_keys]
  (refine ⟨_, rfl, ?_⟩)
  refine ⟨by rw [List.length_map], fun i hi => getD_map hi, hz', fun x hx G st => ?_, ?_⟩
  · refine ⟨_, _, ?_, wg_name, ?_⟩
    · intro j hj; exact hj
    · (refine we_tup ?_; refine wa_cons ?_; refine we_var rfl ?_; refine wa_cons ?_; refine we_xget ?_; (first | refine wq_var rfl ?_ | refine wq_e ?_); refine we_var rfl ?_; refine ⟨_, rfl, ?_⟩; refine we_var rfl ?_)
      refine ⟨x, _, rfl, key_get (List.mem_mergeSort.mp hx), ?_⟩
      (refine wa_nil ?_; refine ⟨Nat.le_of_ble_eq_true rfl, ?_⟩)
      rfl
  (refine wa_nil ?_; refine ct_tuple ?_)
  have e : rTup K (((m.map (·.1)).mergeSort keyLe).map fun x => rTup K [rKey K x, rInt (cf m x)]) = rTms K (canon m) := by
    rw [canon_nz hm.nd hm.nz]
    show rTup K _ = rTup K _
    rw [List.map_map]
    rfl
  rw [e]
  refine ot_neTms ?_
  rw [decide_eq_true rfl]
  (refine ⟨_, rfl, ?_⟩; refine ⟨fun z => Bool.noConfusion (show true = false from by first | exact z | exact z.symm), fun _ => ?_⟩; (first | exact ws_end (by assumption) (by assumption) | refine ws_thru ?_); refine ws_retS (by assumption) ?_; refine we_notV ?_; (first | refine we_cb ?_ | refine we_xlen ?_); refine wa_cons ?_; refine we_frzL ?_)
  refine wl_lcM (canon m) (g := fun t => rTup K [rKey K t.1, rInt t.2]) (h := fun t => rBl false) ?_
  (refine wi_tup ?_; refine we_fld ?_; refine we_var rfl ?_)
  have hcl := canon_len m
  refine ⟨_, _, rTms K (canon m), rfl, hC.cl, hC.na, rfl, _, rfl, by rw [List.length_map], fun i hi => getD_map hi, by rw [sizeLine_eq]; omega, fun t ht G' st' => ?_, ?_⟩
  · refine ⟨_, _, ?_, wg_tup rfl (wgs_cons wg_name (wgs_cons wg_name wgs_nil)), ?_⟩
    · intro j hj; exact hj
    · ((first | refine we_cb ?_ | refine we_xlen ?_); refine wa_cons ?_; refine we_var rfl ?_; refine wa_cons ?_; refine we_c ?_; refine wa_nil ?_)
      refine ct_isi ty_int (.ty _) (k_ib _) ?_
      rfl
  (refine wa_nil ?_)
  rw [show ((canon m).map fun _ => rBl false) = (((canon m).map fun _ => false).map rBl) by rw [List.map_map]; rfl]
  refine ct_any ?_
  rw [show (((canon m).map fun _ => false).any id) = false by rw [List.any_map, List.any_eq_false]; exact fun _ _ => Bool.false_ne_true]
  (refine ⟨_, rfl, ?_⟩)
  exact hk
def S_L_low (P : Program) (w : World) (K : PySem.W.Frag) : Spc := S_fraction P w K
theorem ok_L_low {P : Program} {w : World} {K : PySem.W.Frag} {mg : Str → Option Value} {base : Heap} {f : Addr} {fd : FuncData} (T : Txt K mg) (F : FunD K "_law_low" "_law_low" (defArgs s_L_low) (defBody s_L_low) (defScope s_L_low) [] [] f fd)  (ht : P.given.tree = none) (hsk : seerB K = true) :
    FnOk P w K mg base CX0 40 f fd ["_law_above", "_law_bottom"] (spOf (S_L_low P w K)) := by
  refine F.ok sc_L_low (len_of (by intro rs k h; first | (obtain ⟨e, _⟩ := h; subst e; exact rfl) | (obtain ⟨_, e, _⟩ := h; subst e; exact rfl) | (obtain ⟨_, _, e, _⟩ := h; subst e; exact rfl) | (obtain ⟨_, _, _, e, _⟩ := h; subst e; exact rfl) | (obtain ⟨_, _, _, _, e, _⟩ := h; subst e; exact rfl) | (obtain ⟨_, _, _, _, _, e, _⟩ := h; subst e; exact rfl) | (obtain ⟨_, _, _, _, _, _, e, _⟩ := h; subst e; exact rfl) | (obtain ⟨_, _, _, _, _, _, _, e, _⟩ := h; subst e; exact rfl) | (obtain ⟨_, _, _, _, _, _, _, _, e, _⟩ := h; subst e; exact rfl) | (obtain ⟨_, _, _, _, _, _, _, _, _, e, _⟩ := h; subst e; exact rfl) | (obtain ⟨_, _, _, _, _, _, _, _, _, _, e, _⟩ := h; subst e; exact rfl) | (obtain ⟨_, _, _, _, _, _, _, _, _, _, _, e, _⟩ := h; subst e; exact rfl) | (obtain ⟨_, _, _, _, _, _, _, _, _, _, _, _, e, _⟩ := h; subst e; exact rfl))) (fun cdv A outer s H vs Q E hr h => ?_)
  
  refine ⟨_, PSs.nox (pss_cons (ps_par (i := 2) (j := 3) (by rfl) sc_L_low.nd rfl rfl (by decide) rfl rfl (pa_cons (pe_callB k_abs rfl T.b_abs boot_abs (pa_cons (pv 0) pa_nil)) (pa_cons (pv 1) pa_nil)) (by rfl)) (pss_cons (ps_while PassesOwn.never (pt_cmpR op_gt (pv 3) pe_int (nomark _)) (pss_cons (ps_par (i := 2) (j := 3) (by rfl) sc_L_low.nd rfl rfl (by decide) rfl rfl (pa_cons (pv 3) (pa_cons (pe_op op_mod (pe_callTy k_int1 rfl T.b_int boot_int (pa_cons (pv 2) pa_nil)) (pv 3)) pa_nil)) (by rfl)) pss_nil)) (pss_cons (ps_ret (pe_tup (pa_cons (pe_op (op_fdivP ⟨ht, hsk, rfl, rfl, rfl, dp_of hr (by decide)⟩) (pv 0) (pv 2)) (pa_cons (pe_op (op_fdivP ⟨ht, hsk, rfl, rfl, rfl, dp_of hr (by decide)⟩) (pv 1) (pv 2)) pa_nil)))) pss_nil))), ?_⟩
  refine read_of P w K h rfl fun rs k D hs hD hN => ?_
  obtain ⟨t, b, rfl, hb, hk⟩ := hs
  have hg : 0 < t.natAbs.gcd b := Nat.gcd_pos_of_pos_right _ hb
  (refine ws_par ?_; refine wa_cons ?_; (first | refine we_cb ?_ | refine we_xlen ?_); refine wa_cons ?_; refine we_var rfl ?_; refine wa_nil ?_; refine ct_abs ?_; refine wa_cons ?_; refine we_var rfl ?_; refine wa_nil ?_)
  refine ⟨_, _, rfl, ?_⟩
  rw [abs_eq]
  refine ws_while (fun m Γ => ∃ x y : Nat, Γ = [.im (rInt t), .im (rInt (b : Int)), .im (rInt (x : Int)), .im (rInt (y : Int))] ∧ Nat.gcd x y = t.natAbs.gcd b ∧ y ≤ m) b ⟨t.natAbs, b, rfl, rfl, Nat.le_refl _⟩ fun m Γ1 hΓ => ?_
  obtain ⟨x, y, rfl, hg', hm⟩ := hΓ
  (refine wt_test ?_; refine we_op ?_; refine we_var rfl ?_; refine we_c ?_; refine ot_I0 ?_; refine ⟨_, rfl, ?_⟩)
  refine ⟨fun z => ?_, fun z => ?_⟩
  · have h0 : 0 < y := by have := of_decide_eq_true z; omega
    (refine ws_par ?_; refine wa_cons ?_; refine we_var rfl ?_; refine wa_cons ?_; refine we_op ?_; (first | refine we_cb ?_ | refine we_xlen ?_); refine wa_cons ?_; refine we_var rfl ?_; refine wa_nil ?_; (first | refine ct_int ?_ | refine ct_intB ?_); refine we_var rfl ?_; refine ot_I ?_ ?_)
    · show (0 : Int) < (y : Int)
      omega
    (refine wa_nil ?_)
    refine ⟨_, _, rfl, ?_⟩
    have e : ((x : Int) % (y : Int)) = ((x % y : Nat) : Int) := (Int.natCast_emod x y).symm
    rw [e]
    exact ws_nextE rfl _ (by (repeat' (first | exact Weak.nil | apply Weak.eq | apply Weak.no))) ⟨x % y, Nat.lt_of_lt_of_le (Nat.mod_lt x h0) hm, y, x % y, rfl, by rw [← hg', Nat.gcd_comm x y, Nat.gcd_rec y x, Nat.gcd_comm], Nat.le_refl _⟩
  · have h0 : y = 0 := by have := of_decide_eq_false z; omega
    subst h0
    rw [Nat.gcd_zero_right] at hg'
    subst hg'
    (refine ws_retS (by assumption) ?_; refine we_tup ?_; refine wa_cons ?_; refine we_op ?_; refine we_var rfl ?_; refine we_var rfl ?_; refine ot_I ?_ ?_)
    · show (0 : Int) < _
      omega
    (refine wa_cons ?_; refine we_op ?_; refine we_var rfl ?_; refine we_var rfl ?_; refine ot_I ?_ ?_)
    · show (0 : Int) < _
      omega
    (refine wa_nil ?_; refine ⟨Nat.le_of_ble_eq_true rfl, ?_⟩)
    rw [rQ_mk K t hb]
    exact hk
end Lw
set_option Elab.async false
set_option linter.all false
set_option maxRecDepth 100000
set_option maxHeartbeats 1000000
namespace Lw
open PySem PySem.Spec PyProof.Rows L2 BX
theorem pow_zeroR (q : Rat) : q ^ 0 = 1 := by grind
theorem pm_stop {b : B4} {n : Nat} (hu : InU b n) {k : List Int} (hk : In b k) (ps : List Rat) : ∀ d, n + d ≤ 4 → pm ps k (n + d) = pm ps k n
  | 0, _ => rfl
  | d + 1, h => by
    have e : (k.getD (n + d) 0).toNat = 0 := by
      have := (in_at.mp hk).2 (n + d) (by omega)
      have := hu (n + d) (by omega) (by omega)
      omega
    show pm ps k (n + d) * ps.getD (n + d) 0 ^ (k.getD (n + d) 0).toNat = _
    rw [e, pow_zeroR, Rat.mul_one]
    exact pm_stop hu hk ps d (by omega)
/-- a fraction that is not made less: its worth, its bounds -/
structure FrI (v : Rat) (N D : Nat) (s : Int × Nat) : Prop where
  pos : 0 < s.2
  e : mkRat s.1 s.2 = v
  n : s.1.natAbs ≤ N
  d : s.2 ≤ D
theorem FrI.step {v p : Rat} {N D a : Nat} {s : Int × Nat} (h : FrI v N D s) (h1 : p.num.natAbs < 2 ^ a) (h2 : p.den < 2 ^ a) : FrI (v * p) (N * 2 ^ a) (D * 2 ^ a) (s.1 * p.num, s.2 * p.den) := by
  refine ⟨Nat.mul_pos h.pos p.den_pos, ?_, ?_, ?_⟩
  · show mkRat (s.1 * p.num) (s.2 * p.den) = _
    rw [← Rat.mkRat_mul_mkRat, h.e, Rat.mkRat_self]
  · show (s.1 * p.num).natAbs ≤ _
    rw [Int.natAbs_mul]
    exact Nat.mul_le_mul h.n (Nat.le_of_lt h1)
  · exact Nat.mul_le_mul h.d (Nat.le_of_lt h2)
theorem FrI.mono {v : Rat} {N D N' D' : Nat} {s : Int × Nat} (h : FrI v N D s) (hN : N ≤ N') (hD : D ≤ D') : FrI v N' D' s := ⟨h.pos, h.e, Nat.le_trans h.n hN, Nat.le_trans h.d hD⟩
/-- a point and what it stands for in four unknowns -/
structure PtOk (ps pp : List Rat) (b : B4) (a : Nat) : Prop where
  pb : PsB a pp
  e : ∀ j, j < ps.length → pp.getD j 0 = ps.getD j 0
  len : ps.length ≤ 4
  u : InU b ps.length
theorem shift_pow (a x y : Nat) : 2 ^ (a * x) * 2 ^ (a * y) = 2 ^ (a * (x + y)) := by rw [← Nat.pow_add, Nat.mul_add]
def S_L_worth (P : Program) (w : World) (K : PySem.W.Frag) : Spc := fun rs k => ∃ (m : PT) (b : B4) (ps pp : List Rat) (rp : Rel) (a c : Nat), rs = [rDI P w K m, rp] ∧ (rp = rTup K (ps.map (rQ K)) ∨ rp = rLst (ps.map (rQ K))) ∧ PtOk ps pp b a ∧ Bx b m ∧ (m.map (·.1)).Nodup ∧ l1 m < 2 ^ c ∧ 0 < a ∧
  a * eB b + c + a + 1 ≤ 490000 ∧ m.length ≤ 16777000 ∧ k (rQ K (wR pp m))
theorem ct_lenE {B : Bd} {k : Rel → Prop} {rs : List Rel} {rp : Rel} (hp : rp = rTup B.K rs ∨ rp = rLst rs) (q : k (rInt rs.length)) : CaT B (rLenS B.K) [rp] k := by
  rcases hp with rfl | rfl
  · exact ct_lenT q
  · exact ct_lenL q
theorem ok_L_worth {P : Program} {w : World} {K : PySem.W.Frag} {mg : Str → Option Value} {base : Heap} {f : Addr} {fd fd_L_low : FuncData} (T : Txt K mg) (F : FunD K "_law_worth" "_law_worth" (defArgs s_L_worth) (defBody s_L_worth) (defScope s_L_worth) [] [] f fd) (c_L_low : Callee P w K mg base (He.ga K "_law_low") fd_L_low ["_law_above", "_law_bottom"] 40 (spOf (S_L_low P w K)))  :
    FnOk P w K mg base CX0 41 f fd ["_law_poly", "_law_point"] (spOf (S_L_worth P w K)) := by
  refine F.ok sc_L_worth (len_of (by intro rs k h; first | (obtain ⟨e, _⟩ := h; subst e; exact rfl) | (obtain ⟨_, e, _⟩ := h; subst e; exact rfl) | (obtain ⟨_, _, e, _⟩ := h; subst e; exact rfl) | (obtain ⟨_, _, _, e, _⟩ := h; subst e; exact rfl) | (obtain ⟨_, _, _, _, e, _⟩ := h; subst e; exact rfl) | (obtain ⟨_, _, _, _, _, e, _⟩ := h; subst e; exact rfl) | (obtain ⟨_, _, _, _, _, _, e, _⟩ := h; subst e; exact rfl) | (obtain ⟨_, _, _, _, _, _, _, e, _⟩ := h; subst e; exact rfl) | (obtain ⟨_, _, _, _, _, _, _, _, e, _⟩ := h; subst e; exact rfl) | (obtain ⟨_, _, _, _, _, _, _, _, _, e, _⟩ := h; subst e; exact rfl) | (obtain ⟨_, _, _, _, _, _, _, _, _, _, e, _⟩ := h; subst e; exact rfl) | (obtain ⟨_, _, _, _, _, _, _, _, _, _, _, e, _⟩ := h; subst e; exact rfl) | (obtain ⟨_, _, _, _, _, _, _, _, _, _, _, _, e, _⟩ := h; subst e; exact rfl))) (fun cdv A outer s H vs Q E hr h => ?_)
  
  refine ⟨_, PSs.nox (pss_cons (ps_asg (pe_tup (pa_cons pe_int (pa_cons pe_int pa_nil))) (q_gtup (K := K) rfl rfl (pgs_cons (pg_name (i := 2) sc_L_worth.nd rfl (by first | exact Or.inl rfl | exact Or.inr rfl)) (pgs_cons (pg_name (i := 3) sc_L_worth.nd rfl (by first | exact Or.inl rfl | exact Or.inr rfl)) pgs_nil)))) (pss_cons (ps_for PassesOwn.never rfl (q_keys (P := P) (w := w) rfl rfl (pv 0)) (pg_name (i := 4) sc_L_worth.nd rfl (by first | exact Or.inl rfl | exact Or.inr rfl)) (pss_cons (ps_par (i := 5) (j := 6) (by rfl) sc_L_worth.nd rfl rfl (by decide) rfl rfl (pa_cons (q_get (P := P) (w := w) (K := K) rfl rfl rfl (hu_of hr) (pv 0) (pv 4) (fun _ _ => rfl)) (pa_cons pe_int pa_nil)) (by rfl)) (pss_cons (ps_for PassesOwn.never rfl (pi_range1 rfl T.b_range (pa_cons (pe_callB (k_len (K := K) rfl) rfl T.b_len boot_len (pa_cons (pv 1) pa_nil)) pa_nil)) (pg_name (i := 7) sc_L_worth.nd rfl (by first | exact Or.inl rfl | exact Or.inr rfl)) (pss_cons (ps_for PassesOwn.never rfl (pi_range1 rfl T.b_range (pa_cons (pe_ix (k_ixT (K := K) rfl) (pv 4) (pv 7) (fun _ _ => rfl)) pa_nil)) (pg_name (i := 8) sc_L_worth.nd rfl (by first | exact Or.inl rfl | exact Or.inr rfl)) (pss_cons (ps_par (i := 5) (j := 6) (by rfl) sc_L_worth.nd rfl rfl (by decide) rfl rfl (pa_cons (pe_op op_mulW (pv 5) (pe_ix (k_ixT (K := K) rfl) (pe_ix (k_ixE (K := K) rfl) (pv 1) (pv 7) (fun _ _ => rfl)) pe_int (fun _ _ => rfl))) (pa_cons (pe_op op_mulW (pv 6) (pe_ix (k_ixT (K := K) rfl) (pe_ix (k_ixE (K := K) rfl) (pv 1) (pv 7) (fun _ _ => rfl)) pe_int (fun _ _ => rfl))) pa_nil)) (by rfl)) pss_nil)) pss_nil)) (pss_cons (ps_asg (pe_call (c_L_low.F.mono (by decide)) hr rfl T.g_L_low c_L_low.kp c_L_low.b .nil pass0 (pa_cons (pe_op op_add (pe_op op_mulW (pv 2) (pv 6)) (pe_op op_mulW (pv 5) (pv 3))) (pa_cons (pe_op op_mulW (pv 3) (pv 6)) pa_nil))) (q_gtup (K := K) rfl rfl (pgs_cons (pg_name (i := 2) sc_L_worth.nd rfl (by first | exact Or.inl rfl | exact Or.inr rfl)) (pgs_cons (pg_name (i := 3) sc_L_worth.nd rfl (by first | exact Or.inl rfl | exact Or.inr rfl)) pgs_nil)))) pss_nil)))) (pss_cons (ps_ret (pe_tup (pa_cons (pv 2) (pa_cons (pv 3) pa_nil)))) pss_nil))), ?_⟩
  refine read_of P w K h rfl fun rs k D hs hD hN => ?_
  obtain ⟨m, b, ps, pp, rp, a, c, rfl, hrp, hP, hb, nd, hc, ha, hn, hz, hk⟩ := hs
  refine ws_asgG (Γ' := []) ?_
  (refine we_tup ?_; refine wa_cons ?_; refine we_c ?_; refine wa_cons ?_; refine we_c ?_; refine wa_nil ?_; refine ⟨Nat.le_of_ble_eq_true rfl, ?_⟩)
  refine ⟨_, _, wg_tup rfl (wgs_cons wg_name (wgs_cons wg_name wgs_nil)), ?_⟩
  refine ws_forF m (g := fun t => rKey K t.1) (0 : Rat) (fun q t => q + (t.2 : Rat) * mw pp t.1) (fun q => [.im (rDI P w K m), .im rp, .im (rInt q.num), .im (rInt (q.den : Int)), .no, .no, .no, .no, .no]) ?_
  (refine wi_xkeys ?_; refine we_var rfl ?_; refine ⟨_, rfl, ?_⟩)
  refine ⟨by rw [List.length_map], fun j hj => by rw [List.map_map]; exact keyD hj, by (repeat' (first | exact Weak.nil | apply Weak.eq | apply Weak.no)), fun i hi G st => ?_, ?_⟩
  · rw [wR_fold, Rat.zero_add]
    have hin := hb _ (List.getElem_mem hi)
    have h4 := hin.len
    have hcount : (m[i].2).natAbs < 2 ^ c := Nat.lt_of_le_of_lt (l1_mem (List.getElem_mem hi)) hc
    have q0 : QB (a * eB b + c + 1) (wR pp (m.take i)) := wR_qb hP.pb (fun e he => hb e (List.mem_of_mem_take he)) (Nat.lt_of_le_of_lt (l1_take m i) hc)
    refine ⟨_, _, wg_name, ?_⟩
    (refine ws_par ?_; refine wa_cons ?_; refine we_xget ?_; (first | refine wq_var rfl ?_ | refine wq_e ?_); refine we_var rfl ?_; refine ⟨_, rfl, ?_⟩; refine we_var rfl ?_)
    refine ⟨m[i].1, _, rfl, get_mem nd (List.getElem_mem hi), ?_⟩
    (refine wa_cons ?_; refine we_c ?_; refine wa_nil ?_)
    refine ⟨_, _, rfl, ?_⟩
    refine ws_forQ (fun j s => j ≤ ps.length → FrI ((m[i].2 : Rat) * pm pp m[i].1 j) (m[i].2.natAbs * 2 ^ (a * sB b j)) (2 ^ (a * sB b j)) s) ((m[i].2, 1) : Int × Nat)
      (fun s => [.im (rDI P w K m), .im rp, .im (rInt (wR pp (m.take i)).num), .im (rInt ((wR pp (m.take i)).den : Int)), .im (rKey K m[i].1), .im (rInt s.1), .im (rInt (s.2 : Int)), .no, .no]) ?_
    (refine wi_rng1 ?_; refine wa_cons ?_; (first | refine we_cb ?_ | refine we_xlen ?_); refine wa_cons ?_; refine we_var rfl ?_; refine wa_nil ?_)
    refine ct_lenE hrp ?_
    rw [List.length_map]
    have hL := hP.len
    (refine wa_nil ?_; refine ⟨_, rfl, ?_⟩)
    refine ⟨by omega, by omega, by (repeat' (first | exact Weak.nil | apply Weak.eq | apply Weak.no)), fun _ => ?_, fun j hj s hI G1 st1 => ?_, fun s hI => ?_⟩
    · refine ⟨Nat.one_pos, ?_, ?_, ?_⟩
      · show mkRat m[i].2 1 = (m[i].2 : Rat) * 1
        rw [Rat.mul_one, ← Rat.mkRat_self (m[i].2 : Rat)]
        rfl
      · show m[i].2.natAbs ≤ m[i].2.natAbs * 2 ^ (a * 0)
        rw [Nat.mul_zero, Nat.pow_zero, Nat.mul_one]
        exact Nat.le_refl _
      · exact Nat.one_le_two_pow
    · have hjL : j < ps.length := by omega
      have hj4 : j < 4 := by omega
      have hF := hI (by omega)
      obtain ⟨n0, n1⟩ := (in_at.mp hin).2 j hj4
      obtain ⟨x, hx⟩ : ∃ x : Nat, m[i].1.getD j 0 = x := ⟨_, (Int.toNat_of_nonneg n0).symm⟩
      have hxb : x ≤ b.at j := by omega
      have hp : ∃ p : Rat, ps[j] = p := ⟨_, rfl⟩
      obtain ⟨p, hp⟩ := hp
      have hpp : pp.getD j 0 = p := by
        rw [hP.e j hjL, List.getD_eq_getElem?_getD, List.getElem?_eq_getElem hjL, hp]
        rfl
      have hb1 := hP.pb.at hj4
      rw [hpp] at hb1
      have sj : sB b (j + 1) = sB b j + b.at j := rfl
      have sle := sB_le b (j := j + 1) (by omega)
      refine ⟨_, _, wg_name, ?_⟩
      refine ws_forQ (fun u s => u ≤ x → FrI ((m[i].2 : Rat) * pm pp m[i].1 j * p ^ u) (m[i].2.natAbs * 2 ^ (a * (sB b j + u))) (2 ^ (a * (sB b j + u))) s) s
        (fun s => [.im (rDI P w K m), .im rp, .im (rInt (wR pp (m.take i)).num), .im (rInt ((wR pp (m.take i)).den : Int)), .im (rKey K m[i].1), .im (rInt s.1), .im (rInt (s.2 : Int)), .im (rInt (j : Int)), .no]) ?_
      (refine wi_rng1 ?_; refine wa_cons ?_; refine we_op ?_; refine we_var rfl ?_; refine we_var rfl ?_)
      refine ot_ixT (getD_key (k := m[i].1) (i := j) (by omega)) ?_
      rw [hx]
      (refine wa_nil ?_; refine ⟨_, rfl, ?_⟩)
      have heb : eB b ≤ a * eB b := Nat.le_mul_of_pos_left _ ha
      have hxe : x ≤ eB b := by omega
      refine ⟨by omega, by omega, by (repeat' (first | exact Weak.nil | apply Weak.eq | apply Weak.no)), fun _ => ?_, fun u hu s' hI' G2 st2 => ?_, fun s' hI' => ?_⟩
      · show FrI (_ * p ^ 0) _ _ s
        rw [pow_zeroR, Rat.mul_one]
        exact hF
      · have hux : u < x := by omega
        have hF' := hI' (by omega)
        have hsum : sB b j + u + 1 ≤ eB b := by omega
        have hmul : a * (sB b j + u) + a ≤ a * eB b := by rw [← Nat.mul_succ]; exact Nat.mul_le_mul_left a hsum
        have c1 : s'.1.natAbs < 2 ^ (a * eB b + c + a + 1) := by
          refine Nat.lt_of_le_of_lt hF'.n ?_
          have : m[i].2.natAbs * 2 ^ (a * (sB b j + u)) ≤ 2 ^ c * 2 ^ (a * (sB b j + u)) := Nat.mul_le_mul_right _ (Nat.le_of_lt hcount)
          rw [← Nat.pow_add] at this
          exact Nat.lt_of_le_of_lt this (Nat.pow_lt_pow_right (by decide) (by omega))
        have c2 : s'.2 < 2 ^ (a * eB b + c + a + 1) := Nat.lt_of_le_of_lt hF'.d (Nat.pow_lt_pow_right (by decide) (by omega))
        have d1 : p.num.natAbs < 2 ^ (a * eB b + c + a + 1) := Nat.lt_of_lt_of_le hb1.1 (Nat.pow_le_pow_right (by decide) (by omega))
        have d2 : p.den < 2 ^ (a * eB b + c + a + 1) := Nat.lt_of_lt_of_le hb1.2 (Nat.pow_le_pow_right (by decide) (by omega))
        refine ⟨_, _, wg_name, ?_⟩
        (refine ws_par ?_; refine wa_cons ?_; refine we_op ?_; refine we_var rfl ?_; refine we_op ?_; refine we_op ?_; refine we_var rfl ?_; refine we_var rfl ?_)
        refine ot_ixE (r := rQ K p) hrp ?_ ?_
        · rw [← hp]
          exact atI_nat (by rw [List.getElem?_map, List.getElem?_eq_getElem hjL]; rfl)
        (refine we_c ?_)
        refine ot_ixT (r := rInt p.num) rfl ?_
        (refine ot_I ?_ ?_)
        · exact wide_mul c1 d1 (by omega) (by omega) (by omega)
        (refine wa_cons ?_; refine we_op ?_; refine we_var rfl ?_; refine we_op ?_; refine we_op ?_; refine we_var rfl ?_; refine we_var rfl ?_)
        refine ot_ixE (r := rQ K p) hrp ?_ ?_
        · rw [← hp]
          exact atI_nat (by rw [List.getElem?_map, List.getElem?_eq_getElem hjL]; rfl)
        (refine we_c ?_)
        refine ot_ixT (r := rInt (p.den : Int)) rfl ?_
        (refine ot_I ?_ ?_)
        · exact wide_mul (by rw [Int.natAbs_natCast]; exact c2) (by rw [Int.natAbs_natCast]; exact d2) (by omega) (by omega) (by omega)
        (refine wa_nil ?_)
        refine ⟨_, _, rfl, ?_⟩
        refine ws_nextI rfl (s'.1 * p.num, s'.2 * p.den) (fun _ => ?_) ?_
        · have := hF'.step hb1.1 hb1.2
          rw [Rat.mul_assoc, ← Rat.pow_succ, Nat.mul_assoc, ← Nat.pow_add, ← Nat.mul_succ] at this
          exact this
        · show Weak _ [_, _, _, _, _, _, .im (rInt (((s'.2 * p.den : Nat) : Int))), _, _]
          rw [Int.natCast_mul]
          (repeat' (first | exact Weak.nil | apply Weak.eq | apply Weak.no))
      · have ex : ((x : Int).toNat) = x := Int.toNat_natCast x
        rw [ex] at hI'
        have hF' := hI' (Nat.le_refl _)
        skip
        refine ws_nextI rfl s' (fun _ => ?_) (by (repeat' (first | exact Weak.nil | apply Weak.eq | apply Weak.no)))
        have e : (m[i].2 : Rat) * pm pp m[i].1 (j + 1) = (m[i].2 : Rat) * pm pp m[i].1 j * p ^ x := by
          show (m[i].2 : Rat) * (pm pp m[i].1 j * pp.getD j 0 ^ (m[i].1.getD j 0).toNat) = _
          rw [hpp, hx, Int.toNat_natCast, Rat.mul_assoc]
        rw [e]
        have hle : a * (sB b j + x) ≤ a * sB b (j + 1) := Nat.mul_le_mul_left a (by omega)
        exact hF'.mono (Nat.mul_le_mul_left _ (Nat.pow_le_pow_right (by decide) hle)) (Nat.pow_le_pow_right (by decide) hle)
    · have eL : ((ps.length : Int).toNat) = ps.length := Int.toNat_natCast _
      rw [eL] at hI
      have hF := hI (Nat.le_refl _)
      have estop : pm pp m[i].1 ps.length = mw pp m[i].1 := by
        rw [← pm_mw, ← pm_stop hP.u hin pp (4 - ps.length) (by omega)]
        congr 1
        omega
      rw [estop] at hF
      have sle := sB_le b (j := ps.length) hL
      have hmul : a * sB b ps.length ≤ a * eB b := Nat.mul_le_mul_left a sle
      have c1 : s.1.natAbs < 2 ^ (a * eB b + c + 1) := by
        refine Nat.lt_of_le_of_lt hF.n ?_
        have : m[i].2.natAbs * 2 ^ (a * sB b ps.length) ≤ 2 ^ c * 2 ^ (a * sB b ps.length) := Nat.mul_le_mul_right _ (Nat.le_of_lt hcount)
        rw [← Nat.pow_add] at this
        exact Nat.lt_of_le_of_lt this (Nat.pow_lt_pow_right (by decide) (by omega))
      have c2 : s.2 < 2 ^ (a * eB b + c + 1) := Nat.lt_of_le_of_lt hF.d (Nat.pow_lt_pow_right (by decide) (by omega))
      refine ws_asgG (Γ' := []) ?_
      (refine we_call ?_; refine wa_cons ?_; refine we_op ?_; refine we_op ?_; refine we_var rfl ?_; refine we_var rfl ?_; refine ot_I ?_ ?_)
      · exact wide_mul q0.1 (by rw [Int.natAbs_natCast]; exact c2) (by omega) (by omega) (by omega)
      (refine we_op ?_; refine we_var rfl ?_; refine we_var rfl ?_; refine ot_I ?_ ?_)
      · exact wide_mul c1 (by rw [Int.natAbs_natCast]; exact q0.2) (by omega) (by omega) (by omega)
      (refine ot_I0 ?_; refine wa_cons ?_; refine we_op ?_; refine we_var rfl ?_; refine we_var rfl ?_; refine ot_I ?_ ?_)
      · exact wide_mul (by rw [Int.natAbs_natCast]; exact q0.2) (by rw [Int.natAbs_natCast]; exact c2) (by omega) (by omega) (by omega)
      (refine wa_nil ?_)
      refine ⟨_, (wR pp (m.take i)).den * s.2, by rw [Int.natCast_mul], Nat.mul_pos (Rat.den_pos _) hF.pos, ?_⟩
      have ev : mkRat ((wR pp (m.take i)).num * (s.2 : Int) + s.1 * ((wR pp (m.take i)).den : Int)) ((wR pp (m.take i)).den * s.2) = wR pp (m.take i) + (m[i].2 : Rat) * mw pp m[i].1 := by
        rw [← hF.e]
        have h1 := Rat.mkRat_add_mkRat (wR pp (m.take i)).num s.1 (Rat.den_nz (wR pp (m.take i))) (show s.2 ≠ 0 by have := hF.pos; omega)
        rw [Rat.mkRat_self] at h1
        exact h1.symm
      rw [ev]
      refine ⟨_, _, wg_tup rfl (wgs_cons wg_name (wgs_cons wg_name wgs_nil)), ?_⟩
      exact ws_nextW rfl (by (repeat' (first | exact Weak.nil | apply Weak.eq | apply Weak.no)))
  · rw [wR_fold, Rat.zero_add]
    (refine ws_retS (by assumption) ?_; refine we_tup ?_; refine wa_cons ?_; refine we_var rfl ?_; refine wa_cons ?_; refine we_var rfl ?_; refine wa_nil ?_; refine ⟨Nat.le_of_ble_eq_true rfl, ?_⟩)
    exact hk
end Lw
set_option Elab.async false
set_option linter.all false
set_option maxRecDepth 100000
set_option maxHeartbeats 1000000
namespace Lw
open PySem PySem.Spec PyProof.Rows L2 BX
theorem ltimes_fit {P : Program} {w : World} {K : PySem.W.Frag} {A B : PT} {b c : B4} {n m : Nat} {k : Rel → Prop} (hA : LB b n A) (hB : LB c m B) (hf : FitM A B) (hn : n < 2 ^ 450000) (hm : m < 2 ^ 450000)
    (hk : k (rDI P w K (nz (mulP A B)))) : S_L_times P w K [rDI P w K A, rDI P w K B] k :=
  ⟨A, B, 450000, rfl, hA.tb, hB.tb, hf, bdP_of hA.l hn, bdP_of hB.l hm, by decide, Nat.le_refl _, hk⟩
theorem lpow_len {A : PT} {T : Nat} (hA : A.length ≤ T) : ∀ n, (lpow A n).length ≤ T ^ n
  | 0 => by
    show (numP 1).length ≤ 1
    decide
  | n + 1 => by
    show (nz (mulP (lpow A n) A)).length ≤ _
    rw [Nat.pow_succ]
    have := Nat.mul_le_mul (lpow_len hA n) hA
    exact Nat.le_trans (nz_len _) (Nat.le_trans (mulP_len _ _) this)
def S_L_power2 (P : Program) (w : World) (K : PySem.W.Frag) : Spc := fun rs k => ∃ (A : PT) (n : Nat) (b : B4) (L T : Nat), rs = [rDI P w K A, rInt (n : Int)] ∧ LB b L A ∧ 0 < L ∧ 0 < T ∧ A.length ≤ T ∧ T ^ n ≤ 16777000 ∧ L ^ n < 2 ^ 450000 ∧ n < 1000 ∧ k (rDI P w K (lpow A n))
theorem ok_L_power {P : Program} {w : World} {K : PySem.W.Frag} {mg : Str → Option Value} {base : Heap} {f : Addr} {fd fd_L_times fd_L_num : FuncData} (T : Txt K mg) (F : FunD K "_law_power" "_law_power" (defArgs s_L_power) (defBody s_L_power) (defScope s_L_power) [] [] f fd) (c_L_times : Callee P w K mg base (He.ga K "_law_times") fd_L_times ["_law_one", "_law_other"] 1 (spOf (S_L_times P w K))) (c_L_num : Callee P w K mg base (He.ga K "_law_num") fd_L_num ["_law_number"] 1 (spOf (S_L_num P w K)))  :
    FnOk P w K mg base CX0 2 f fd ["_law_poly", "_law_many"] (spOf (S_L_power2 P w K)) := by
  refine F.ok sc_L_power (len_of (by intro rs k h; first | (obtain ⟨e, _⟩ := h; subst e; exact rfl) | (obtain ⟨_, e, _⟩ := h; subst e; exact rfl) | (obtain ⟨_, _, e, _⟩ := h; subst e; exact rfl) | (obtain ⟨_, _, _, e, _⟩ := h; subst e; exact rfl) | (obtain ⟨_, _, _, _, e, _⟩ := h; subst e; exact rfl) | (obtain ⟨_, _, _, _, _, e, _⟩ := h; subst e; exact rfl) | (obtain ⟨_, _, _, _, _, _, e, _⟩ := h; subst e; exact rfl) | (obtain ⟨_, _, _, _, _, _, _, e, _⟩ := h; subst e; exact rfl) | (obtain ⟨_, _, _, _, _, _, _, _, e, _⟩ := h; subst e; exact rfl) | (obtain ⟨_, _, _, _, _, _, _, _, _, e, _⟩ := h; subst e; exact rfl) | (obtain ⟨_, _, _, _, _, _, _, _, _, _, e, _⟩ := h; subst e; exact rfl) | (obtain ⟨_, _, _, _, _, _, _, _, _, _, _, e, _⟩ := h; subst e; exact rfl) | (obtain ⟨_, _, _, _, _, _, _, _, _, _, _, _, e, _⟩ := h; subst e; exact rfl))) (fun cdv A outer s H vs Q E hr h => ?_)
  
  refine ⟨_, PSs.nox (pss_cons (ps_set (i := 2) sc_L_power.nd rfl (by first | exact Or.inl rfl | exact Or.inr rfl) (pe_call (c_L_num.F.mono (by decide)) hr rfl T.g_L_num c_L_num.kp c_L_num.b .nil pass0 (pa_cons pe_int pa_nil))) (pss_cons (ps_for PassesOwn.never rfl (pi_range1 rfl T.b_range (pa_cons (pv 1) pa_nil)) (pg_name (i := 3) sc_L_power.nd rfl (by first | exact Or.inl rfl | exact Or.inr rfl)) (pss_cons (ps_set (i := 2) sc_L_power.nd rfl (by first | exact Or.inl rfl | exact Or.inr rfl) (pe_call (c_L_times.F.mono (by decide)) hr rfl T.g_L_times c_L_times.kp c_L_times.b .nil pass0 (pa_cons (pv 2) (pa_cons (pv 0) pa_nil)))) pss_nil)) (pss_cons (ps_ret (pv 2)) pss_nil))), ?_⟩
  refine read_of P w K h rfl fun rs k D hs hD hN => ?_
  obtain ⟨A', n, b, L, T0, rfl, hA, hL, hT, hlen, hv, hl, hn, hk⟩ := hs
  ((first | refine ws_asg ?_ | refine ws_asgG ?_); refine we_call ?_; refine wa_cons ?_; refine we_c ?_; refine wa_nil ?_)
  refine ⟨1, rfl, ?_⟩
  show WpS _ _ _ _
  have fold : ∀ m, (List.range m).foldl (fun f (_ : Nat) => nz (mulP f A')) (numP 1) = lpow A' m := by
    intro m
    induction m with
    | zero => rfl
    | succ m ih => rw [List.range_succ, List.foldl_append, ih]; rfl
  refine ws_forF (List.range n) (g := fun j => rInt (j : Int)) (numP 1) (fun f _ => nz (mulP f A')) (fun f => [.im (rDI P w K A'), .im (rInt (n : Int)), .im (rDI P w K f), .no]) ?_
  (refine wi_rng1 ?_; refine wa_cons ?_; refine we_var rfl ?_; refine wa_nil ?_; refine ⟨_, rfl, ?_⟩)
  refine ⟨by omega, by omega, by rw [List.length_range]; omega, fun j hj => by rw [List.getElem_range], by (repeat' (first | exact Weak.nil | apply Weak.eq | apply Weak.no)), fun j hj G st => ?_, ?_⟩
  · rw [List.length_range] at hj
    have e : (List.range n).take j = List.range j := by rw [List.take_range, Nat.min_eq_left (Nat.le_of_lt hj)]
    rw [e, fold]
    obtain ⟨h1, _⟩ := lpow_ok hA j
    refine ⟨_, _, wg_name, ?_⟩
    ((first | refine ws_asg ?_ | refine ws_asgG ?_); refine we_call ?_; refine wa_cons ?_; refine we_var rfl ?_; refine wa_cons ?_; refine we_var rfl ?_; refine wa_nil ?_)
    have l1 : L ^ j < 2 ^ 450000 := Nat.lt_of_le_of_lt (Nat.pow_le_pow_right hL (Nat.le_of_lt hj)) hl
    have l2 : L < 2 ^ 450000 := Nat.lt_of_le_of_lt (by have := Nat.pow_le_pow_right hL (show 1 ≤ n by omega); rw [Nat.pow_one] at this; exact this) hl
    have hf : FitM (lpow A' j) A' := fit_len (by
      have h2 : (lpow A' j).length * A'.length ≤ T0 ^ (j + 1) := by rw [Nat.pow_succ]; exact Nat.mul_le_mul (lpow_len hlen j) hlen
      have h3 := Nat.pow_le_pow_right hT (show j + 1 ≤ n from hj)
      rw [sizeLine_eq]
      clear l1 l2 hl
      omega)
    refine ltimes_fit h1 hA hf l1 l2 ?_
    skip
    exact ws_nextW rfl (by (repeat' (first | exact Weak.nil | apply Weak.eq | apply Weak.no)))
  · rw [fold]
    (refine ws_retS (by assumption) ?_; refine we_var rfl ?_)
    exact hk
/-! ### both sides tell the same -/
theorem can_sum {b : B4} {n m : Nat} {A B : PT} (hA : LB b n A) (hB : LB b m B) {s : Int} (hs : s.natAbs ≤ 1) : canon (sumP (canon A) (canon B) s) = canon (nz (sumP A B s)) := by
  obtain ⟨q, e⟩ := hA.pb.1.sum hB.pb.1 hs
  obtain ⟨q', e'⟩ := hA.sum hB hs
  exact can_pol q.can q.bx.n4 q'.pb.1.can q'.pb.1.bx.n4 (by rw [e, q'.pb.2, e', hA.pb.2, hB.pb.2])
theorem can_mul {b c : B4} {n m : Nat} {A B : PT} (hA : LB b n A) (hB : LB c m B) : canon (mulP (canon A) (canon B)) = canon (nz (mulP A B)) := by
  obtain ⟨q, e⟩ := hA.pb.1.mul hB.pb.1
  obtain ⟨q', e'⟩ := hA.mul hB
  exact can_pol q.can q.bx.n4 q'.pb.1.can q'.pb.1.bx.n4 (e.trans (by rw [q'.pb.2, e', hA.pb.2, hB.pb.2]))
theorem can_pow {b : B4} {L : Nat} {A : PT} (hA : LB b L A) (hL : 0 < L) (n : Nat) : pwL n one4 (canon A) n = canon (lpow A n) := by
  obtain ⟨q, e⟩ := pwL_ok hL n one4 (canon A) 0 1 (pw0 hA.pb.1 hL)
  obtain ⟨q', e'⟩ := lpow_ok hA n
  refine can_pol q.can q.bx.n4 q'.pb.1.can q'.pb.1.bx.n4 ?_
  rw [e, q'.pb.2, e', hA.pb.2, pol_one]
  grind
theorem eqT_iff {b c : B4} {n m : Nat} {A B : PT} (hA : LB b n A) (hB : LB c m B) : eqTb A B = decide (canon A = canon B) := by
  rw [Bool.eq_iff_iff, decide_eq_true_iff]
  unfold eqTb
  rw [Bool.and_eq_true, decide_eq_true_iff, List.all_eq_true]
  constructor
  · rintro ⟨hl, h⟩
    have hin : ∀ e, e ∈ A → getM B e.1 = some e.2 := fun e he => of_decide_eq_true (h e he)
    have sub : ∀ k, k ∈ A.map (·.1) → k ∈ B.map (·.1) := fun k hk => by
      obtain ⟨e, he, rfl⟩ := List.mem_map.mp hk
      exact Classical.byContradiction fun z => by
        have := hin e he
        rw [getM_none.mpr z] at this
        cases this
    have sup : ∀ k, k ∈ B.map (·.1) → k ∈ A.map (·.1) := fun k hk => Classical.byContradiction fun z => by
      have nd : (k :: A.map (·.1)).Nodup := List.nodup_cons.mpr ⟨z, hA.nd⟩
      have := nodup_sub (k :: A.map (·.1)) (B.map (·.1)) nd fun x hx => by
        rcases List.mem_cons.mp hx with rfl | hx
        · exact hk
        · exact sub x hx
      rw [List.length_cons, List.length_map, List.length_map] at this
      omega
    refine can_ext (can_canon hA.nd) (can_canon hB.nd) fun k => ?_
    rw [cf_canon hA.nd, cf_canon hB.nd]
    by_cases hk : k ∈ A.map (·.1)
    · obtain ⟨e, he, rfl⟩ := List.mem_map.mp hk
      rw [cf_mem hA.nd (c := e.2) he]
      unfold cf
      rw [hin e he]
      rfl
    · rw [cf_none hk, cf_none fun z => hk (sup k z)]
  · intro h
    have hp : pol A = pol B := by rw [← hA.pb.2, ← hB.pb.2, h]
    obtain ⟨h1, h2⟩ := lb_eq hA hB hp
    exact ⟨h1, fun e he => decide_eq_true (h2 e he)⟩
theorem eqT_canon {b : B4} {n : Nat} {A : PT} (hA : LB b n A) : eqTb (canon A) A = true := by
  have hc : LB b n (canon A) := hA.pb.1.lb
  rw [eqT_iff hc hA]
  refine decide_eq_true ?_
  exact can_ext (can_canon hc.nd) (can_canon hA.nd) fun k => by rw [cf_canon hc.nd]
theorem room_un {k : Nat} {A : Around} (r : Room k A) : A.units + 70 < cLine := by have := r.un; omega
theorem k_markE {X : Cx} {P : Program} {w : World} {K : PySem.W.Frag} (hP : X.prog = P) (hw : X.w = w) (hK : X.K = K) (hu : X.A.units + 70 < cLine) {b : B4} {n : Nat} {m : PT} (h : LB b n m) : OpR X (compareOp .Eq) (rEqLL [rStr "P", rDI P w K (canon m)] [rStr "P", rDI P w K m]) := by
  subst hP hw hK
  exact op_eqLL (n := 0) (.cons (epr_str _) (.cons (epr_dct (eqT_canon h)) .nil)) (by omega)
/-- what is drawn -/
structure SmOk (m : PT) : Prop where
  lb : LB (bq 60) (2 ^ 200) m
  len : m.length ≤ 40
theorem SmOk.tsb {m : PT} (h : SmOk m) : TsB m := ⟨Nat.le_trans h.len (by decide), h.lb.bx, h.lb.nd, h.lb.nz⟩
end Lw
set_option Elab.async false
set_option linter.all false
set_option maxRecDepth 100000
set_option maxHeartbeats 1000000
namespace Lw
open PySem PySem.Spec PyProof.Rows L2 BX
theorem spOf_ex2 {α : Type} {S : α → Spc} {vs : List V} {H : Hp} {Q : VK} {E : XK} (h : spOf (fun rs k => ∃ a, S a rs k) vs H Q E) : ∃ a, spOf (S a) vs H Q E := by
  obtain ⟨rs, k, hal, ⟨a, hs⟩, hQ⟩ := h
  exact ⟨a, rs, k, hal, hs, hQ⟩
theorem plus_of {P : Program} {w : World} {K : PySem.W.Frag} {C1 C2 : Addr} {A B : PT} {b c : B4} {n m : Nat} {k : Rel → Prop} (h1 : PolyC K C1) (h2 : PolyC K C2) (hA : LB b n A) (hB : LB c m B) (hl : A.length + B.length ≤ 16777000) (hm : m < 2 ^ 450000)
    (hk : k (rPT K (CR K) (canon (sumP (canon A) (canon B) 1)))) : S_plus P w K [rPT K C1 (canon A), rPT K C2 (canon B)] k :=
  ⟨C1, C2, canon A, canon B, 450000, rfl, h1, h2, bx_ne hA.pb.1.bx, bx_ne hB.pb.1.bx, Nat.le_trans (Nat.add_le_add (canon_len A) (canon_len B)) hl, bdP_of hB.pb.1.l hm, by decide, by decide, hk⟩
theorem minus_of {P : Program} {w : World} {K : PySem.W.Frag} {C1 C2 : Addr} {A B : PT} {b c : B4} {n m : Nat} {k : Rel → Prop} (h1 : PolyC K C1) (h2 : PolyC K C2) (hA : LB b n A) (hB : LB c m B) (hl : A.length + B.length ≤ 16777000) (hm : m < 2 ^ 450000)
    (hk : k (rPT K (CR K) (canon (sumP (canon A) (canon B) (-1))))) : S_minus P w K [rPT K C1 (canon A), rPT K C2 (canon B)] k :=
  ⟨C1, C2, canon A, canon B, 450000, rfl, h1, h2, bx_ne hA.pb.1.bx, bx_ne hB.pb.1.bx, Nat.le_trans (Nat.add_le_add (canon_len A) (canon_len B)) hl, bdP_of hB.pb.1.l hm, by decide, by decide, hk⟩
theorem lplus_len {P : Program} {w : World} {K : PySem.W.Frag} {A B : PT} {b c : B4} {n m : Nat} {s : Int} {k : Rel → Prop} (hA : LB b n A) (hB : LB c m B) (hl : A.length + B.length ≤ 16777000) (hm : m < 2 ^ 450000) (hs : s.natAbs < 8)
    (hk : k (rDI P w K (nz (sumP A B s)))) : S_L_plus P w K [rDI P w K A, rDI P w K B, rInt s] k :=
  ⟨A, B, s, 450000, rfl, hA.tb, hB.tb, hl, hs, bdP_of hB.l hm, by decide, by decide, hk⟩
theorem times_len {P : Program} {w : World} {K : PySem.W.Frag} {C1 C2 : Addr} {A B : PT} {b c : B4} {n m : Nat} {k : Rel → Prop} (h1 : PolyC K C1) (h2 : PolyC K C2) (hA : LB b n A) (hB : LB c m B) (hl : A.length * B.length ≤ 16777000) (hn : n < 2 ^ 450000) (hm : m < 2 ^ 450000)
    (hk : k (rPT K (CR K) (canon (mulP (canon A) (canon B))))) : S_times P w K [rPT K C1 (canon A), rPT K C2 (canon B)] k :=
  times_fit h1 h2 hA.pb.1 hB.pb.1 (fit_len (by have := Nat.mul_le_mul (canon_len A) (canon_len B); rw [sizeLine_eq]; clear hn hm; omega)) hn hm hk
theorem ltimes_len {P : Program} {w : World} {K : PySem.W.Frag} {A B : PT} {b c : B4} {n m : Nat} {k : Rel → Prop} (hA : LB b n A) (hB : LB c m B) (hl : A.length * B.length ≤ 16777000) (hn : n < 2 ^ 450000) (hm : m < 2 ^ 450000)
    (hk : k (rDI P w K (nz (mulP A B)))) : S_L_times P w K [rDI P w K A, rDI P w K B] k := ltimes_fit hA hB (fit_len (by rw [sizeLine_eq]; clear hn hm; omega)) hn hm hk
theorem sum_len (A B : PT) (s : Int) : (nz (sumP A B s)).length ≤ A.length + B.length := Nat.le_trans (nz_len _) (sumP_len A B s)
theorem mul_len (A B : PT) : (nz (mulP A B)).length ≤ A.length * B.length := Nat.le_trans (nz_len _) (mulP_len A B)
abbrev Two : Type := { p : PT × PT // SmOk p.1 ∧ SmOk p.2 }
def S_two (P : Program) (w : World) (K : PySem.W.Frag) (a : Two) : Spc := fun rs k => rs = [rHand P w, rDI P w K a.1.1, rDI P w K a.1.2] ∧ k (rBl true)
def S_L_are_sums_right (P : Program) (w : World) (K : PySem.W.Frag) : Spc := fun rs k => ∃ a : Two, S_two P w K a rs k
theorem ok_L_are_sums_right {P : Program} {w : World} {K : PySem.W.Frag} {mg : Str → Option Value} {base : Heap} {f : Addr} {fd fd_L_unpacked fd_L_mark fd_L_packed fd_L_is_poly fd_power fd_L_power fd_L_any fd_times fd_L_times fd_minus fd_L_plus fd_plus : FuncData} (T : Txt K mg) (F : FunD K "_law_are_sums_right" "_law_are_sums_right" (defArgs s_L_are_sums_right) (defBody s_L_are_sums_right) (defScope s_L_are_sums_right) [] [] f fd) (c_L_unpacked : Callee P w K mg base (He.ga K "_law_unpacked") fd_L_unpacked ["_law_thing"] 2 (spOf (S_L_unpacked P w K))) (c_L_mark : Callee P w K mg base (He.ga K "_law_mark") fd_L_mark ["_law_parts"] 1 (spOf (S_L_mark P w K))) (c_L_packed : Callee P w K mg base (He.ga K "_law_packed") fd_L_packed ["_law_thing"] 6 (spOf (S_L_packed P w K))) (c_L_is_poly : Callee P w K mg base (He.ga K "_law_is_poly") fd_L_is_poly ["_law_told", "_law_due"] 1 (spOf (S_L_is_poly P w K))) (c_power : Callee P w K mg base (He.ga K "power") fd_power ["poly", "many"] 6 (spOf (S_power P w K))) (c_L_power : Callee P w K mg base (He.ga K "_law_power") fd_L_power ["_law_poly", "_law_many"] 2 (spOf (S_L_power2 P w K))) (c_L_any : Callee P w K mg base (He.ga K "_law_any") fd_L_any ["_law_hand_here", "_law_things"] 2 (spOf (S_L_any P w K))) (c_times : Callee P w K mg base (He.ga K "times") fd_times ["one", "other"] 4 (spOf (S_times P w K))) (c_L_times : Callee P w K mg base (He.ga K "_law_times") fd_L_times ["_law_one", "_law_other"] 1 (spOf (S_L_times P w K))) (c_minus : Callee P w K mg base (He.ga K "minus") fd_minus ["one", "other"] 5 (spOf (S_minus P w K))) (c_L_plus : Callee P w K mg base (He.ga K "_law_plus") fd_L_plus ["_law_one", "_law_other", "_law_by"] 1 (spOf (S_L_plus P w K))) (c_plus : Callee P w K mg base (He.ga K "plus") fd_plus ["one", "other"] 5 (spOf (S_plus P w K))) {fd_eq : FuncData} (c_eq : Callee P w K mg base (He.ma K (CP K) "__eq__") fd_eq ["self", "other"] 1 (spOf (S_Poly_eq2 P w K))) (pP : PolyC K (CP K)) (pR : PolyC K (CR K)) (nft : PySem.W.notFirst K (CP K) (.type "tuple") = true) (kt : PySem.W.kitOne K (.type "tuple") (.ref (CP K)) = some false) :
    FnOk P w K mg base CX0 7 f fd ["_law_hand_here", "_law_one", "_law_other"] (spOf (S_L_are_sums_right P w K)) := by
  refine F.ok sc_L_are_sums_right (len_of (by intro rs k h; first | (obtain ⟨e, _⟩ := h; subst e; exact rfl) | (obtain ⟨_, e, _⟩ := h; subst e; exact rfl) | (obtain ⟨_, _, e, _⟩ := h; subst e; exact rfl) | (obtain ⟨_, _, _, e, _⟩ := h; subst e; exact rfl) | (obtain ⟨_, _, _, _, e, _⟩ := h; subst e; exact rfl) | (obtain ⟨_, _, _, _, _, e, _⟩ := h; subst e; exact rfl) | (obtain ⟨_, _, _, _, _, _, e, _⟩ := h; subst e; exact rfl) | (obtain ⟨_, _, _, _, _, _, _, e, _⟩ := h; subst e; exact rfl) | (obtain ⟨_, _, _, _, _, _, _, _, e, _⟩ := h; subst e; exact rfl) | (obtain ⟨_, _, _, _, _, _, _, _, _, e, _⟩ := h; subst e; exact rfl) | (obtain ⟨_, _, _, _, _, _, _, _, _, _, e, _⟩ := h; subst e; exact rfl) | (obtain ⟨_, _, _, _, _, _, _, _, _, _, _, e, _⟩ := h; subst e; exact rfl) | (obtain ⟨_, _, _, _, _, _, _, _, _, _, _, _, e, _⟩ := h; subst e; exact rfl))) (fun cdv A outer s H vs Q E hr h => ?_)
  obtain ⟨a0, h⟩ := spOf_ex2 h
  refine ⟨_, PSs.nox (pss_cons (ps_par (i := 3) (j := 4) (by rfl) sc_L_are_sums_right.nd rfl rfl (by decide) rfl rfl (pa_cons (pe_call (c_L_packed.F.mono (by decide)) hr rfl T.g_L_packed c_L_packed.kp c_L_packed.b .nil pass0 (pa_cons (pe_call (c_L_mark.F.mono (by decide)) hr rfl T.g_L_mark c_L_mark.kp c_L_mark.b .nil pass0 (pa_cons (pv 1) pa_nil)) pa_nil)) (pa_cons (pe_call (c_L_packed.F.mono (by decide)) hr rfl T.g_L_packed c_L_packed.kp c_L_packed.b .nil pass0 (pa_cons (pe_call (c_L_mark.F.mono (by decide)) hr rfl T.g_L_mark c_L_mark.kp c_L_mark.b .nil pass0 (pa_cons (pv 2) pa_nil)) pa_nil)) pa_nil)) (by rfl)) (pss_cons (ps_if (pt_not (pt_val (pe_call (c_L_is_poly.F.mono (by decide)) hr rfl T.g_L_is_poly c_L_is_poly.kp c_L_is_poly.b .nil pass0 (pa_cons (pe_call (c_plus.F.mono (by decide)) hr rfl T.g_plus c_plus.kp c_plus.b .nil pass0 (pa_cons (pv 3) (pa_cons (pv 4) pa_nil))) (pa_cons (pe_call (c_L_plus.F.mono (by decide)) hr rfl T.g_L_plus c_L_plus.kp c_L_plus.b .nil pass0 (pa_cons (pv 1) (pa_cons (pv 2) (pa_cons pe_int pa_nil)))) pa_nil))))) (pss_cons (ps_ret pe_bl) pss_nil) pss_nil) (pss_cons (ps_if (pt_not (pt_val (pe_call (c_L_is_poly.F.mono (by decide)) hr rfl T.g_L_is_poly c_L_is_poly.kp c_L_is_poly.b .nil pass0 (pa_cons (pe_call (c_minus.F.mono (by decide)) hr rfl T.g_minus c_minus.kp c_minus.b .nil pass0 (pa_cons (pv 3) (pa_cons (pv 4) pa_nil))) (pa_cons (pe_call (c_L_plus.F.mono (by decide)) hr rfl T.g_L_plus c_L_plus.kp c_L_plus.b .nil pass0 (pa_cons (pv 1) (pa_cons (pv 2) (pa_cons (pe_un un_neg pe_int) pa_nil)))) pa_nil))))) (pss_cons (ps_ret pe_bl) pss_nil) pss_nil) (pss_cons (ps_if (pt_not (pt_val (pe_call (c_L_is_poly.F.mono (by decide)) hr rfl T.g_L_is_poly c_L_is_poly.kp c_L_is_poly.b .nil pass0 (pa_cons (pe_call (c_times.F.mono (by decide)) hr rfl T.g_times c_times.kp c_times.b .nil pass0 (pa_cons (pv 3) (pa_cons (pv 4) pa_nil))) (pa_cons (pe_call (c_L_times.F.mono (by decide)) hr rfl T.g_L_times c_L_times.kp c_L_times.b .nil pass0 (pa_cons (pv 1) (pa_cons (pv 2) pa_nil))) pa_nil))))) (pss_cons (ps_ret pe_bl) pss_nil) pss_nil) (pss_cons (ps_set (i := 5) sc_L_are_sums_right.nd rfl (by first | exact Or.inl rfl | exact Or.inr rfl) (pe_ifExp (pt_cmpR op_gt (pe_callB (k_xlen (P := P) (w := w) (K := K) rfl rfl rfl) rfl T.b_len boot_len (pa_cons (pv 1) pa_nil)) pe_int (nomark _)) (pe_call (c_L_any.F.mono (by decide)) hr rfl T.g_L_any c_L_any.kp c_L_any.b .nil pass0 (pa_cons (pv 0) (pa_cons (pe_frz (pe_lst (pa_cons pe_int (pa_cons pe_int (pa_cons pe_int (pa_cons pe_int pa_nil)))))) pa_nil))) (pe_call (c_L_any.F.mono (by decide)) hr rfl T.g_L_any c_L_any.kp c_L_any.b .nil pass0 (pa_cons (pv 0) (pa_cons (pe_frz (pe_lst (pa_cons pe_int (pa_cons pe_int (pa_cons pe_int (pa_cons pe_int (pa_cons pe_int pa_nil))))))) pa_nil))))) (pss_cut (ps_if (PW.pt (pw_and (pt_cmpR op_lt (pe_callB (k_xlen (P := P) (w := w) (K := K) rfl rfl rfl) rfl T.b_len boot_len (pa_cons (pv 1) pa_nil)) pe_int (nomark _)) (pw_and1 (pt_not (pt_val (pe_call (c_L_is_poly.F.mono (by decide)) hr rfl T.g_L_is_poly c_L_is_poly.kp c_L_is_poly.b .nil pass0 (pa_cons (pe_call (c_power.F.mono (by decide)) hr rfl T.g_power c_power.kp c_power.b .nil pass0 (pa_cons (pv 3) (pa_cons (pv 5) pa_nil))) (pa_cons (pe_call (c_L_power.F.mono (by decide)) hr rfl T.g_L_power c_L_power.kp c_L_power.b .nil pass0 (pa_cons (pv 1) (pa_cons (pv 5) pa_nil))) pa_nil)))))))) (pss_cons (ps_ret pe_bl) pss_nil) pss_nil) (pss_cons (ps_if (PW.pt (pw_or (pt_cmpR op_ne (pe_cmpR (k_ownB (K := K) (n := 1) rfl rfl rfl rfl rfl c_eq pP.eq pP.isf pass0 (hr.mono (by decide))) (pv 3) (pv 4) (nomark _)) (pe_cmpR (k_xeqB (P := P) (w := w) (K := K) rfl rfl rfl hr.units) (pv 1) (pv 2) (nomark _)) (nomark _)) (pw_or (pt_cmpR (k_ownB (K := K) (n := 1) rfl rfl rfl rfl rfl c_eq pP.eq pP.isf pass0 (hr.mono (by decide))) (pv 3) (q_fld (K := K) rfl (pv 3) rfl) (nomark _)) (pw_or1 (pt_not (pt_cmpR (k_ownB (K := K) (n := 1) rfl rfl rfl rfl rfl c_eq pP.eq pP.isf pass0 (hr.mono (by decide))) (pv 3) (pe_call (c_L_packed.F.mono (by decide)) hr rfl T.g_L_packed c_L_packed.kp c_L_packed.b .nil pass0 (pa_cons (pe_call (c_L_mark.F.mono (by decide)) hr rfl T.g_L_mark c_L_mark.kp c_L_mark.b .nil pass0 (pa_cons (pv 1) pa_nil)) pa_nil)) (nomark _))))))) (pss_cons (ps_ret pe_bl) pss_nil) pss_nil) (pss_cons (ps_ret (pe_and (pe_cmpR (k_markE (P := P) (w := w) (K := K) rfl rfl rfl (room_un hr) a0.2.1.lb) (pe_call (c_L_unpacked.F.mono (by decide)) hr rfl T.g_L_unpacked c_L_unpacked.kp c_L_unpacked.b .nil pass0 (pa_cons (pv 3) pa_nil)) (pe_call (c_L_mark.F.mono (by decide)) hr rfl T.g_L_mark c_L_mark.kp c_L_mark.b .nil pass0 (pa_cons (pv 1) pa_nil)) (nomark _)) (pe_one (pe_cmpR (k_markE (P := P) (w := w) (K := K) rfl rfl rfl (room_un hr) a0.2.2.lb) (pe_call (c_L_unpacked.F.mono (by decide)) hr rfl T.g_L_unpacked c_L_unpacked.kp c_L_unpacked.b .nil pass0 (pa_cons (pv 4) pa_nil)) (pe_call (c_L_mark.F.mono (by decide)) hr rfl T.g_L_mark c_L_mark.kp c_L_mark.b .nil pass0 (pa_cons (pv 2) pa_nil)) (nomark _))))) pss_nil)))))))), ?_⟩
  refine read_of P w K h rfl fun rs k D hs hD hN => ?_
  obtain ⟨rfl, hk⟩ := hs
  obtain ⟨⟨A', B'⟩, hA, hB⟩ := a0
  have hA : SmOk A' := hA
  have hB : SmOk B' := hB
  (refine ws_par ?_; refine wa_cons ?_; refine we_call ?_; refine wa_cons ?_; refine we_call ?_; refine wa_cons ?_; refine we_var rfl ?_; refine wa_nil ?_)
  refine ⟨_, rfl, ?_⟩
  (refine wa_nil ?_)
  have l40 : A'.length + B'.length ≤ 16777000 := by have := hA.len; have := hB.len; omega
  have m40 : A'.length * B'.length ≤ 16777000 := Nat.le_trans (Nat.mul_le_mul hA.len hB.len) (by decide)
  have h200 : (2 : Nat) ^ 200 < 2 ^ 450000 := Nat.pow_lt_pow_right (by decide) (by decide)
  refine ⟨A', rfl, hA.tsb, ?_⟩
  (refine wa_cons ?_; refine we_call ?_; refine wa_cons ?_; refine we_call ?_; refine wa_cons ?_; refine we_var rfl ?_; refine wa_nil ?_)
  refine ⟨_, rfl, ?_⟩
  (refine wa_nil ?_)
  refine ⟨B', rfl, hB.tsb, ?_⟩
  (refine wa_nil ?_)
  refine ⟨_, _, rfl, ?_⟩
  (refine ws_if ?_; refine wt_not ?_; refine wt_B ?_; refine we_call ?_; refine wa_cons ?_; refine we_call ?_; refine wa_cons ?_; refine we_var rfl ?_; refine wa_cons ?_; refine we_var rfl ?_; refine wa_nil ?_)
  refine plus_of pP pP hA.lb hB.lb l40 h200 ?_
  (refine wa_cons ?_; refine we_call ?_; refine wa_cons ?_; refine we_var rfl ?_; refine wa_cons ?_; refine we_var rfl ?_; refine wa_cons ?_; refine we_c ?_; refine wa_nil ?_)
  refine lplus_len hA.lb hB.lb l40 h200 (by decide) ?_
  (refine wa_nil ?_)
  have s1 := (hA.lb.sum hB.lb (s := 1) (by decide)).1
  rw [can_sum hA.lb hB.lb (by decide)]
  refine ⟨CR K, _, _, _, rfl, pR, s1, Nat.le_trans (sum_len _ _ _) l40, ?_⟩
  (refine ⟨_, rfl, ?_⟩; refine ⟨fun z => Bool.noConfusion (show true = false from by first | exact z | exact z.symm), fun _ => ?_⟩; (first | exact ws_end (by assumption) (by assumption) | refine ws_thru ?_); refine ws_if ?_; refine wt_not ?_; refine wt_B ?_; refine we_call ?_; refine wa_cons ?_; refine we_call ?_; refine wa_cons ?_; refine we_var rfl ?_; refine wa_cons ?_; refine we_var rfl ?_; refine wa_nil ?_)
  refine minus_of pP pP hA.lb hB.lb l40 h200 ?_
  (refine wa_cons ?_; refine we_call ?_; refine wa_cons ?_; refine we_var rfl ?_; refine wa_cons ?_; refine we_var rfl ?_; refine wa_cons ?_; refine we_un ?_; refine we_c ?_; refine ut_I ?_; refine wa_nil ?_)
  refine lplus_len hA.lb hB.lb l40 h200 (by decide) ?_
  (refine wa_nil ?_)
  have s2 := (hA.lb.sum hB.lb (s := -1) (by decide)).1
  rw [can_sum hA.lb hB.lb (by decide)]
  refine ⟨CR K, _, _, _, rfl, pR, s2, Nat.le_trans (sum_len _ _ _) l40, ?_⟩
  (refine ⟨_, rfl, ?_⟩; refine ⟨fun z => Bool.noConfusion (show true = false from by first | exact z | exact z.symm), fun _ => ?_⟩; (first | exact ws_end (by assumption) (by assumption) | refine ws_thru ?_); refine ws_if ?_; refine wt_not ?_; refine wt_B ?_; refine we_call ?_; refine wa_cons ?_; refine we_call ?_; refine wa_cons ?_; refine we_var rfl ?_; refine wa_cons ?_; refine we_var rfl ?_; refine wa_nil ?_)
  refine times_len pP pP hA.lb hB.lb m40 h200 h200 ?_
  (refine wa_cons ?_; refine we_call ?_; refine wa_cons ?_; refine we_var rfl ?_; refine wa_cons ?_; refine we_var rfl ?_; refine wa_nil ?_)
  refine ltimes_len hA.lb hB.lb m40 h200 h200 ?_
  (refine wa_nil ?_)
  have s3 := (hA.lb.mul hB.lb).1
  rw [can_mul hA.lb hB.lb]
  refine ⟨CR K, _, _, _, rfl, pR, s3, Nat.le_trans (mul_len _ _) m40, ?_⟩
  (refine ⟨_, rfl, ?_⟩; refine ⟨fun z => Bool.noConfusion (show true = false from by first | exact z | exact z.symm), fun _ => ?_⟩)
  refine ws_thru ?_
  refine ws_asg ?_
  refine we_allP (fun n : Nat => (2 < A'.length → n ≤ 3) ∧ n ≤ 9) (fun n => rInt (n : Int)) (fun k' hk' => ?_) (fun n hn => ?_)
  · refine we_if ?_
    refine wt_test ?_
    refine we_op ?_
    refine we_xlen ?_
    ((first | refine wq_var rfl ?_ | refine wq_e ?_); refine we_var rfl ?_; refine ⟨_, rfl, ?_⟩; refine we_c ?_; refine ot_I0 ?_; refine ⟨_, rfl, ?_⟩)
    refine ⟨fun z => ?_, fun z => ?_⟩
    · (refine we_call ?_; refine wa_cons ?_; refine we_var rfl ?_; refine wa_cons ?_; (refine we_frzL ?_; refine wl_lst ?_); refine wa_cons ?_; refine we_c ?_; refine wa_cons ?_; refine we_c ?_; refine wa_cons ?_; refine we_c ?_; refine wa_cons ?_; refine we_c ?_; refine wa_nil ?_; refine ⟨Nat.le_of_ble_eq_true rfl, ?_⟩; refine wa_nil ?_)
      refine ⟨_, rfl, by decide, by decide, fun r hr => ?_⟩
      simp only [List.mem_cons, List.not_mem_nil, or_false] at hr
      rcases hr with rfl | rfl | rfl | rfl
      · exact hk' 0 ⟨fun _ => by decide, by decide⟩
      · exact hk' 1 ⟨fun _ => by decide, by decide⟩
      · exact hk' 2 ⟨fun _ => by decide, by decide⟩
      · exact hk' 3 ⟨fun _ => by decide, by decide⟩
    · have z' := of_decide_eq_false z
      rw [List.length_map] at z'
      have z2 : ¬ 2 < A'.length := fun h => z' (by show (2 : Int) < ((A'.length : Nat) : Int); omega)
      (refine we_call ?_; refine wa_cons ?_; refine we_var rfl ?_; refine wa_cons ?_; (refine we_frzL ?_; refine wl_lst ?_); refine wa_cons ?_; refine we_c ?_; refine wa_cons ?_; refine we_c ?_; refine wa_cons ?_; refine we_c ?_; refine wa_cons ?_; refine we_c ?_; refine wa_cons ?_; refine we_c ?_; refine wa_nil ?_; refine ⟨Nat.le_of_ble_eq_true rfl, ?_⟩; refine wa_nil ?_)
      refine ⟨_, rfl, by decide, by decide, fun r hr => ?_⟩
      simp only [List.mem_cons, List.not_mem_nil, or_false] at hr
      rcases hr with rfl | rfl | rfl | rfl | rfl
      · exact hk' 0 ⟨fun h => absurd h z2, by decide⟩
      · exact hk' 1 ⟨fun h => absurd h z2, by decide⟩
      · exact hk' 2 ⟨fun h => absurd h z2, by decide⟩
      · exact hk' 5 ⟨fun h => absurd h z2, by decide⟩
      · exact hk' 9 ⟨fun h => absurd h z2, by decide⟩
  · refine ws_cut [.im (rHand P w), .im (rDI P w K A'), .im (rDI P w K B'), .im (rPT K (CP K) (canon A')), .im (rPT K (CP K) (canon B')), .no] ?_ ?_
    · refine ws_if1 ?_
      refine wt_and ?_
      refine wt_test ?_
      refine we_op ?_
      refine we_xlen ?_
      ((first | refine wq_var rfl ?_ | refine wq_e ?_); refine we_var rfl ?_; refine ⟨_, rfl, ?_⟩; refine we_c ?_; refine ot_I0 ?_; refine ⟨_, rfl, ?_⟩)
      refine ⟨fun z => ?_, fun _ => ?_⟩
      · have z' := of_decide_eq_true z
        rw [List.length_map] at z'
        have z2 : A'.length < 9 := by have : ((A'.length : Nat) : Int) < 9 := z'; omega
        obtain ⟨T0, hT, hlen, hpow⟩ : ∃ T0, 0 < T0 ∧ A'.length ≤ T0 ∧ T0 ^ n ≤ 16777000 := by
          by_cases h2 : 2 < A'.length
          · exact ⟨8, by decide, by omega, Nat.le_trans (Nat.pow_le_pow_right (by decide) (hn.1 h2)) (by decide)⟩
          · exact ⟨2, by decide, by omega, Nat.le_trans (Nat.pow_le_pow_right (by decide) hn.2) (by decide)⟩
        have hn9 := hn.2
        have hpos : 0 < 2 ^ 200 := Nat.pow_pos (by decide)
        have hbig : (2 ^ 200) ^ n < 2 ^ 450000 := by
          rw [← Nat.pow_mul]
          exact Nat.pow_lt_pow_right (by decide) (by omega)
        (refine wt_not ?_; refine wt_B ?_; refine we_call ?_; refine wa_cons ?_; refine we_call ?_; refine wa_cons ?_; refine we_var rfl ?_; refine wa_cons ?_; refine we_var rfl ?_; refine wa_nil ?_)
        refine ⟨CP K, canon A', n, bq 60, 2 ^ 200, T0, rfl, by omega, pP, pR, hA.lb.pb.1, hpos, hT, Nat.le_trans (canon_len A') hlen, hpow, hbig, ?_⟩
        (refine wa_cons ?_; refine we_call ?_; refine wa_cons ?_; refine we_var rfl ?_; refine wa_cons ?_; refine we_var rfl ?_; refine wa_nil ?_)
        refine ⟨A', n, bq 60, 2 ^ 200, T0, rfl, hA.lb, hpos, hT, hlen, hpow, hbig, by omega, ?_⟩
        (refine wa_nil ?_)
        rw [can_pow hA.lb hpos n]
        refine ⟨CR K, _, _, _, rfl, pR, (lpow_ok hA.lb n).1, Nat.le_trans (lpow_len hlen n) hpow, ?_⟩
        (refine ⟨_, rfl, ?_⟩; refine ⟨fun z => Bool.noConfusion (show true = false from by first | exact z | exact z.symm), fun _ => ?_⟩)
        exact ws_nextW rfl (by (repeat' (first | exact Weak.nil | apply Weak.eq | apply Weak.no)))
      · (refine ⟨fun z => Bool.noConfusion (show true = false from by first | exact z | exact z.symm), fun _ => ?_⟩)
        exact ws_nextW rfl (by (repeat' (first | exact Weak.nil | apply Weak.eq | apply Weak.no)))
    · (refine ws_if ?_; refine wt_or ?_; refine wt_test ?_; refine we_op ?_; refine we_op ?_; refine we_var rfl ?_; refine we_var rfl ?_)
      refine ot_ownB (.inl ⟨_, rfl⟩) ⟨CP K, canon A', _, _, rfl, pP, .inl ⟨CP K, canon B', pP, rfl, rfl⟩, ?_⟩
      (refine we_op ?_; refine we_var rfl ?_; refine we_var rfl ?_)
      refine ot_xeqB ?_
      (refine ot_ne rfl ?_; refine ⟨_, rfl, ?_⟩)
      rw [eqT_iff hA.lb hB.lb, decide_eq_true (rfl : V.bl (decide (canon A' = canon B')) = _)]
      (refine ⟨fun z => Bool.noConfusion (show true = false from by first | exact z | exact z.symm), fun _ => ?_⟩; refine wt_or ?_; refine wt_test ?_; refine we_op ?_; refine we_var rfl ?_; refine we_fld ?_; refine we_var rfl ?_)
      refine ⟨_, _, rTms K (canon A'), rfl, pP.cl, pP.na, rfl, ?_⟩
      refine ot_ownB (.inr ⟨_, rfl, nft⟩) ⟨CP K, canon A', _, _, rfl, pP, .inr ⟨_, kt, rfl, rfl⟩, ?_⟩
      (refine ⟨_, rfl, ?_⟩; refine ⟨fun z => Bool.noConfusion (show true = false from by first | exact z | exact z.symm), fun _ => ?_⟩; refine wt_not ?_; refine wt_test ?_; refine we_op ?_; refine we_var rfl ?_; refine we_call ?_; refine wa_cons ?_; refine we_call ?_; refine wa_cons ?_; refine we_var rfl ?_; refine wa_nil ?_)
      refine ⟨_, rfl, ?_⟩
      (refine wa_nil ?_)
      refine ⟨A', rfl, hA.tsb, ?_⟩
      refine ot_ownB (.inl ⟨_, rfl⟩) ⟨CP K, canon A', _, _, rfl, pP, .inl ⟨CP K, canon A', pP, rfl, rfl⟩, ?_⟩
      rw [decide_eq_true rfl]
      (refine ⟨_, rfl, ?_⟩; refine ⟨fun z => Bool.noConfusion (show true = false from by first | exact z | exact z.symm), fun _ => ?_⟩; (first | exact ws_end (by assumption) (by assumption) | refine ws_thru ?_); refine ws_retS (by assumption) ?_; refine we_andV ?_; refine we_op ?_; refine we_call ?_; refine wa_cons ?_; refine we_var rfl ?_; refine wa_nil ?_)
      have hcA := hA.lb.pb.1
      have hcB := hB.lb.pb.1
      refine ⟨CP K, canon A', rfl, pP, hcA.tb, Nat.le_trans (canon_len A') (Nat.le_trans hA.len (by decide)), ?_⟩
      (refine we_call ?_; refine wa_cons ?_; refine we_var rfl ?_; refine wa_nil ?_)
      refine ⟨_, rfl, ?_⟩
      refine ot_eqLL ?_
      (refine ⟨_, rfl, ?_⟩; refine ⟨fun _ => ?_, fun z => Bool.noConfusion (show true = false from by first | exact z | exact z.symm)⟩; refine we_op ?_; refine we_call ?_; refine wa_cons ?_; refine we_var rfl ?_; refine wa_nil ?_)
      refine ⟨CP K, canon B', rfl, pP, hcB.tb, Nat.le_trans (canon_len B') (Nat.le_trans hB.len (by decide)), ?_⟩
      (refine we_call ?_; refine wa_cons ?_; refine we_var rfl ?_; refine wa_nil ?_)
      refine ⟨_, rfl, ?_⟩
      refine ot_eqLL ?_
      exact hk
end Lw
set_option Elab.async false
set_option linter.all false
set_option maxRecDepth 100000
set_option maxHeartbeats 1000000
namespace Lw
open PySem PySem.Spec PyProof.Rows L2 BX
theorem degP_perm {A B : PT} (p : A.Perm B) (i : Nat) : degP A i = degP B i :=
  Nat.le_antisymm (degP_le fun t ht => degP_mem (p.mem_iff.mp ht) i) (degP_le fun t ht => degP_mem (p.mem_iff.mpr ht) i)
theorem grp_perm {A B : PT} (p : A.Perm B) (i d : Nat) : (grp A i d).Perm (grp B i d) := (p.filter _).map _
theorem nz_self {b : B4} {n : Nat} {A : PT} (hA : LB b n A) : A.Perm (canon A) := by
  have hB := hA.pb.1.lb
  have eq := lb_eq hA hB hA.pb.2.symm
  have nd : ∀ {X : PT}, (X.map (·.1)).Nodup → X.Nodup := fun {X} h => (List.pairwise_map.mp h).imp fun {a b} ne z => ne (by rw [z])
  refine (List.perm_ext_iff_of_nodup (nd hA.nd) (nd hB.nd)).mpr fun e => ?_
  constructor
  · intro he
    exact mem_getM (eq.2 e he)
  · intro he
    have eq' := lb_eq hB hA hA.pb.2
    exact mem_getM (eq'.2 e he)
theorem LB.grp {b : B4} {n i : Nat} {A : PT} (h : LB b n A) (hi : i < 4) (d : Nat) : LB (b.set i 0) n (Lw.grp A i d) := by
  refine ⟨grp_nd h.bx h.nd hi d, fun e he => ?_, grp_bx h.bx hi d, Nat.le_trans (l1_grp A i d) h.l⟩
  obtain ⟨t, ht, rfl⟩ := List.mem_map.mp he
  exact h.nz t (List.mem_filter.mp ht).1
theorem topL_perm {A B : PT} (p : A.Perm B) : ∀ n, topL A n = topL B n
  | 0 => rfl
  | n + 1 => by
    show (if 0 < degP A n then some n else topL A n) = if 0 < degP B n then some n else topL B n
    rw [degP_perm p, topL_perm p n]
theorem grp_len (A : PT) (i d : Nat) : (grp A i d).length ≤ A.length := by
  unfold grp
  rw [List.length_map]
  exact List.length_filter_le ..
/-- what both sides tell of a table's own form -/
theorem lead_can {b : B4} {n i : Nat} {A : PT} (h : LB b n A) (hi : i < 4) : leadP (canon A) i = canon (grp A i (degP A i)) := by
  have p := nz_self h
  have hc := h.pb.1
  rw [lead_eq hc.bx hc.can.nd hi, degP_perm p.symm]
  exact canon_perm (grp_perm p.symm i _) (grp_nd hc.bx hc.can.nd hi _)
theorem slope_can {b : B4} {n i : Nat} {A : PT} (h : LB b n A) (hi : i < 4) : canon (slF (canon A) i) = canon (slF A i) := by
  have hc := h.pb.1
  exact canon_perm (slF_perm (nz_self h).symm i) (slF_nd hi hc.bx.n4 hc.can.nd)
theorem exch_can {b : B4} {n x y : Nat} {A : PT} (h : LB b n A) (hx : x < 4) (hy : y < 4) : canon (exF (canon A) x y) = canon (exF A x y) := by
  have hc := h.pb.1
  exact canon_perm (exF_perm (nz_self h).symm x y) (exF_nd hx hy hc.bx.n4 hc.can.nd)
/-- the greatest of a box -/
def B4.top (b : B4) : Nat := b.a + b.b + b.c + b.d
theorem at_top (b : B4) {i : Nat} (hi : i < 4) : b.at i ≤ b.top := by
  unfold B4.top
  match i, hi with
  | 0, _ => show b.a ≤ _; omega
  | 1, _ => show b.b ≤ _; omega
  | 2, _ => show b.c ≤ _; omega
  | 3, _ => show b.d ≤ _; omega
theorem l1_mapK {A : PT} {f : List Int → List Int} : l1 (A.map fun t => (f t.1, t.2)) = l1 A := by
  unfold l1
  rw [List.map_map]
  rfl
theorem l1_slope {A : PT} {b : B4} {i M : Nat} (hi : i < 4) (h : Bx b A) (hM : b.at i ≤ M) : l1 (slF A i) ≤ M * l1 A := by
  unfold slF
  induction A with
  | nil => exact Nat.zero_le _
  | cons t A ih =>
    have ih' := ih fun e he => h e (List.mem_cons_of_mem _ he)
    have hp := h.exp (List.mem_cons_self ..) hi
    rw [List.filter_cons]
    split
    · rw [List.map_cons, l1_cons, l1_cons, Nat.mul_add]
      show (t.2 * t.1.getD i 0).natAbs + _ ≤ _
      rw [Int.natAbs_mul, Nat.mul_comm t.2.natAbs]
      have : (t.1.getD i 0).natAbs ≤ M := by omega
      have := Nat.mul_le_mul_right t.2.natAbs this
      omega
    · rw [l1_cons, Nat.mul_add]
      omega
theorem LB.slope {b : B4} {n i M : Nat} {A : PT} (h : LB b n A) (hi : i < 4) (hM : b.at i ≤ M) : LB b (M * n) (slF A i) := by
  refine ⟨slF_nd hi h.bx.n4 h.nd, fun e he => ?_, fun e he => ?_, Nat.le_trans (l1_slope hi h.bx hM) (Nat.mul_le_mul_left M h.l)⟩
  · obtain ⟨t, ht, rfl⟩ := List.mem_map.mp he
    have hp := of_decide_eq_true (List.mem_filter.mp ht).2
    exact Int.mul_ne_zero (h.nz t (List.mem_filter.mp ht).1) (by omega)
  · obtain ⟨t, ht, rfl⟩ := List.mem_map.mp he
    have hp := of_decide_eq_true (List.mem_filter.mp ht).2
    have hin := h.bx t (List.mem_filter.mp ht).1
    have g := in_at.mp hin
    refine in_at.mpr ⟨by show (t.1.set i _).length = 4; rw [List.length_set]; exact g.1, fun j hj => ?_⟩
    show 0 ≤ (t.1.set i (t.1.getD i 0 - 1)).getD j 0 ∧ ((t.1.set i (t.1.getD i 0 - 1)).getD j 0).toNat ≤ _
    rw [getD_set (by omega)]
    split
    · rename_i e
      subst e
      have := g.2 i hi
      omega
    · exact g.2 j hj
def B4.exch (b : B4) (x y : Nat) : B4 := ⟨b.at (exN x y 0), b.at (exN x y 1), b.at (exN x y 2), b.at (exN x y 3)⟩
theorem LB.exch {b : B4} {n x y : Nat} {A : PT} (h : LB b n A) (hx : x < 4) (hy : y < 4) : LB (b.exch x y) n (exF A x y) := by
  refine ⟨exF_nd hx hy h.bx.n4 h.nd, fun e he => ?_, fun e he => ?_, ?_⟩
  · obtain ⟨t, ht, rfl⟩ := List.mem_map.mp he
    exact h.nz t ht
  · obtain ⟨t, ht, rfl⟩ := List.mem_map.mp he
    have g := in_at.mp (h.bx t ht)
    have at4 : ∀ j, j < 4 → (b.exch x y).at j = b.at (exN x y j) := fun j hj => by
      match j, hj with
      | 0, _ => rfl
      | 1, _ => rfl
      | 2, _ => rfl
      | 3, _ => rfl
    refine in_at.mpr ⟨rfl, fun j hj => ?_⟩
    rw [at4 j hj]
    have e : (exK x y t.1).getD j 0 = t.1.getD (exN x y j) 0 := by
      unfold exK
      match j, hj with
      | 0, _ => rfl
      | 1, _ => rfl
      | 2, _ => rfl
      | 3, _ => rfl
    show 0 ≤ (exK x y t.1).getD j 0 ∧ ((exK x y t.1).getD j 0).toNat ≤ _
    rw [e]
    exact g.2 _ (exN_lt hx hy hj)
  · show l1 (A.map _) ≤ _
    rw [l1_mapK]
    exact h.l
theorem ws_par3 {B : Bd} {Γ : BX.Ctx} {D : Ends} {i j l : Nat} {t : TA} {tz : TS} (h : WpA B Γ t fun rs => ∃ a b c, rs = [a, b, c] ∧ WpS B D (((Γ.set i (.im a)).set j (.im b)).set l (.im c)) tz) : WpS B D Γ (tSeq (tPar3 i j l t) tz) := fun σ H E =>
  h σ H E _ fun rs vs H1 ⟨r, s, u, er, q⟩ p e => by
    subst er
    cases p with
    | cons p1 t1 =>
      cases t1 with
      | cons p2 t2 =>
        cases t2 with
        | cons p3 t3 =>
          cases t3
          exact ⟨_, _, _, rfl, q _ _ ((((E.mono e).set i p1).set j p2).set l p3)⟩
theorem ty_non {B : Bd} : HasTy B rNon (.type "NoneType") := fun H v h => by cases h; exact .inl (.base .non)
theorem k_nb (K : PySem.W.Frag) : PySem.W.kitOne K (.type "NoneType") (.type "bool") = some false := kit_ty (by decide +kernel)
theorem top_ne {B : Bd} {k : Rel → Prop} (o : Option Nat) (q : k (rBl false)) : OpT B rNe (rTop o) (rTop o) k := by
  cases o with
  | none => exact ot_ne rfl (by rw [decide_eq_true rfl]; exact q)
  | some i => exact ot_ne rfl (by rw [decide_eq_true rfl]; exact q)
theorem top_isb {B : Bd} {k : Rel → Prop} (o : Option Nat) (q : k (rBl false)) : CaT B (rIsiB B.P B.w B.K) [rTop o, rC (.ty "bool")] k := by
  cases o with
  | none => exact ct_isi ty_non (.ty _) (k_nb _) q
  | some i => exact ct_isi ty_int (.ty _) (k_ib _) q
def S_L_are_parts_right (P : Program) (w : World) (K : PySem.W.Frag) : Spc := fun rs k => ∃ m : PT, rs = [rHand P w, rDI P w K m] ∧ SmOk m ∧ k (rBl true)
theorem ok_L_are_parts_right {P : Program} {w : World} {K : PySem.W.Frag} {mg : Str → Option Value} {base : Heap} {f : Addr} {fd fd_L_is_poly fd_exchanged fd_L_exchanged fd_slope fd_L_slope fd_lead fd_L_lead fd_degree fd_L_degree fd_L_top fd_top fd_L_packed fd_L_mark fd_L_draw : FuncData} (T : Txt K mg) (F : FunD K "_law_are_parts_right" "_law_are_parts_right" (defArgs s_L_are_parts_right) (defBody s_L_are_parts_right) (defScope s_L_are_parts_right) [] [] f fd) (c_L_is_poly : Callee P w K mg base (He.ga K "_law_is_poly") fd_L_is_poly ["_law_told", "_law_due"] 1 (spOf (S_L_is_poly P w K))) (c_exchanged : Callee P w K mg base (He.ga K "exchanged") fd_exchanged ["poly", "k", "l"] 4 (spOf (S_exchanged P w K))) (c_L_exchanged : Callee P w K mg base (He.ga K "_law_exchanged") fd_L_exchanged ["_law_poly", "_law_k", "_law_l"] 1 (spOf (S_L_exchanged P w K))) (c_slope : Callee P w K mg base (He.ga K "slope") fd_slope ["poly", "k"] 5 (spOf (S_slope P w K))) (c_L_slope : Callee P w K mg base (He.ga K "_law_slope") fd_L_slope ["_law_poly", "_law_k"] 1 (spOf (S_L_slope P w K))) (c_lead : Callee P w K mg base (He.ga K "lead") fd_lead ["poly", "k"] 6 (spOf (S_lead P w K))) (c_L_lead : Callee P w K mg base (He.ga K "_law_lead") fd_L_lead ["_law_poly", "_law_k"] 2 (spOf (S_L_lead P w K))) (c_degree : Callee P w K mg base (He.ga K "degree") fd_degree ["poly", "k"] 4 (spOf (S_degree P w K))) (c_L_degree : Callee P w K mg base (He.ga K "_law_degree") fd_L_degree ["_law_poly", "_law_k"] 1 (spOf (S_L_degree P w K))) (c_L_top : Callee P w K mg base (He.ga K "_law_top") fd_L_top ["_law_poly"] 2 (spOf (S_L_top P w K))) (c_top : Callee P w K mg base (He.ga K "top") fd_top ["poly"] 1 (spOf (S_top P w K))) (c_L_packed : Callee P w K mg base (He.ga K "_law_packed") fd_L_packed ["_law_thing"] 6 (spOf (S_L_packed P w K))) (c_L_mark : Callee P w K mg base (He.ga K "_law_mark") fd_L_mark ["_law_parts"] 1 (spOf (S_L_mark P w K))) (c_L_draw : Callee P w K mg base (He.ga K "_law_draw") fd_L_draw ["_law_hand_here", "_law_many"] 1 (spOf (S_L_draw P w K))) (pP : PolyC K (CP K)) (pR : PolyC K (CR K)) :
    FnOk P w K mg base CX0 7 f fd ["_law_hand_here", "_law_one"] (spOf (S_L_are_parts_right P w K)) := by
  refine F.ok sc_L_are_parts_right (len_of (by intro rs k h; first | (obtain ⟨e, _⟩ := h; subst e; exact rfl) | (obtain ⟨_, e, _⟩ := h; subst e; exact rfl) | (obtain ⟨_, _, e, _⟩ := h; subst e; exact rfl) | (obtain ⟨_, _, _, e, _⟩ := h; subst e; exact rfl) | (obtain ⟨_, _, _, _, e, _⟩ := h; subst e; exact rfl) | (obtain ⟨_, _, _, _, _, e, _⟩ := h; subst e; exact rfl) | (obtain ⟨_, _, _, _, _, _, e, _⟩ := h; subst e; exact rfl) | (obtain ⟨_, _, _, _, _, _, _, e, _⟩ := h; subst e; exact rfl) | (obtain ⟨_, _, _, _, _, _, _, _, e, _⟩ := h; subst e; exact rfl) | (obtain ⟨_, _, _, _, _, _, _, _, _, e, _⟩ := h; subst e; exact rfl) | (obtain ⟨_, _, _, _, _, _, _, _, _, _, e, _⟩ := h; subst e; exact rfl) | (obtain ⟨_, _, _, _, _, _, _, _, _, _, _, e, _⟩ := h; subst e; exact rfl) | (obtain ⟨_, _, _, _, _, _, _, _, _, _, _, _, e, _⟩ := h; subst e; exact rfl))) (fun cdv A outer s H vs Q E hr h => ?_)
  
  refine ⟨_, PSs.nox (pss_cons (ps_par3 (i := 2) (j := 3) (l := 4) (by rfl) sc_L_are_parts_right.nd rfl rfl rfl (by decide) (by decide) (by decide) rfl rfl rfl (pa_cons (pe_call (c_L_packed.F.mono (by decide)) hr rfl T.g_L_packed c_L_packed.kp c_L_packed.b .nil pass0 (pa_cons (pe_call (c_L_mark.F.mono (by decide)) hr rfl T.g_L_mark c_L_mark.kp c_L_mark.b .nil pass0 (pa_cons (pv 1) pa_nil)) pa_nil)) (pa_cons (pe_call (c_L_draw.F.mono (by decide)) hr rfl T.g_L_draw c_L_draw.kp c_L_draw.b .nil pass0 (pa_cons (pv 0) (pa_cons pe_int pa_nil))) (pa_cons (pe_call (c_L_draw.F.mono (by decide)) hr rfl T.g_L_draw c_L_draw.kp c_L_draw.b .nil pass0 (pa_cons (pv 0) (pa_cons pe_int pa_nil))) pa_nil))) (by rfl)) (pss_cons (ps_set (i := 5) sc_L_are_parts_right.nd rfl (by first | exact Or.inl rfl | exact Or.inr rfl) (pe_call (c_top.F.mono (by decide)) hr rfl T.g_top c_top.kp c_top.b .nil pass0 (pa_cons (pv 2) pa_nil))) (pss_cons (ps_if (PW.pt (pw_or (pt_cmpR op_ne (pv 5) (pe_call (c_L_top.F.mono (by decide)) hr rfl T.g_L_top c_L_top.kp c_L_top.b .nil pass0 (pa_cons (pv 1) pa_nil)) (nomark _)) (pw_or (pt_val (pe_callB (k_isi (P := P) (w := w) (K := K) rfl rfl rfl) rfl T.b_isinstance boot_isinstance (pa_cons (pv 5) (pa_cons (pe_bltn (v := .ty "bool") rfl T.b_bool boot_bool rfl) pa_nil)))) (pw_or1 (pt_cmpR op_ne (pe_call (c_degree.F.mono (by decide)) hr rfl T.g_degree c_degree.kp c_degree.b .nil pass0 (pa_cons (pv 2) (pa_cons (pv 3) pa_nil))) (pe_call (c_L_degree.F.mono (by decide)) hr rfl T.g_L_degree c_L_degree.kp c_L_degree.b .nil pass0 (pa_cons (pv 1) (pa_cons (pv 3) pa_nil))) (nomark _)))))) (pss_cons (ps_ret pe_bl) pss_nil) pss_nil) (pss_cons (ps_if (PW.pt (pw_or (pt_not (pt_val (pe_call (c_L_is_poly.F.mono (by decide)) hr rfl T.g_L_is_poly c_L_is_poly.kp c_L_is_poly.b .nil pass0 (pa_cons (pe_call (c_lead.F.mono (by decide)) hr rfl T.g_lead c_lead.kp c_lead.b .nil pass0 (pa_cons (pv 2) (pa_cons (pv 3) pa_nil))) (pa_cons (pe_call (c_L_lead.F.mono (by decide)) hr rfl T.g_L_lead c_L_lead.kp c_L_lead.b .nil pass0 (pa_cons (pv 1) (pa_cons (pv 3) pa_nil))) pa_nil))))) (pw_or1 (pt_not (pt_val (pe_call (c_L_is_poly.F.mono (by decide)) hr rfl T.g_L_is_poly c_L_is_poly.kp c_L_is_poly.b .nil pass0 (pa_cons (pe_call (c_slope.F.mono (by decide)) hr rfl T.g_slope c_slope.kp c_slope.b .nil pass0 (pa_cons (pv 2) (pa_cons (pv 3) pa_nil))) (pa_cons (pe_call (c_L_slope.F.mono (by decide)) hr rfl T.g_L_slope c_L_slope.kp c_L_slope.b .nil pass0 (pa_cons (pv 1) (pa_cons (pv 3) pa_nil))) pa_nil)))))))) (pss_cons (ps_ret pe_bl) pss_nil) pss_nil) (pss_cons (ps_ret (pe_call (c_L_is_poly.F.mono (by decide)) hr rfl T.g_L_is_poly c_L_is_poly.kp c_L_is_poly.b .nil pass0 (pa_cons (pe_call (c_exchanged.F.mono (by decide)) hr rfl T.g_exchanged c_exchanged.kp c_exchanged.b .nil pass0 (pa_cons (pv 2) (pa_cons (pv 3) (pa_cons (pv 4) pa_nil)))) (pa_cons (pe_call (c_L_exchanged.F.mono (by decide)) hr rfl T.g_L_exchanged c_L_exchanged.kp c_L_exchanged.b .nil pass0 (pa_cons (pv 1) (pa_cons (pv 3) (pa_cons (pv 4) pa_nil)))) pa_nil)))) pss_nil))))), ?_⟩
  refine read_of P w K h rfl fun rs k D hs hD hN => ?_
  obtain ⟨A', rfl, hA, hk⟩ := hs
  refine ws_par3 ?_
  (refine wa_cons ?_; refine we_call ?_; refine wa_cons ?_; refine we_call ?_; refine wa_cons ?_; refine we_var rfl ?_; refine wa_nil ?_)
  refine ⟨_, rfl, ?_⟩
  (refine wa_nil ?_)
  refine ⟨A', rfl, hA.tsb, ?_⟩
  (refine wa_cons ?_; refine we_call ?_; refine wa_cons ?_; refine we_var rfl ?_; refine wa_cons ?_; refine we_c ?_; refine wa_nil ?_)
  refine ⟨4, rfl, by decide, by decide, fun x hx0 hx => ?_⟩
  (refine wa_cons ?_; refine we_call ?_; refine wa_cons ?_; refine we_var rfl ?_; refine wa_cons ?_; refine we_c ?_; refine wa_nil ?_)
  refine ⟨4, rfl, by decide, by decide, fun y hy0 hy => ?_⟩
  obtain ⟨x, rfl⟩ := Int.eq_ofNat_of_zero_le hx0
  obtain ⟨y, rfl⟩ := Int.eq_ofNat_of_zero_le hy0
  have hx4 : x < 4 := by omega
  have hy4 : y < 4 := by omega
  (refine wa_nil ?_)
  refine ⟨_, _, _, rfl, ?_⟩
  ((first | refine ws_asg ?_ | refine ws_asgG ?_); refine we_call ?_; refine wa_cons ?_; refine we_var rfl ?_; refine wa_nil ?_)
  have hcan := hA.lb.pb.1
  have hlc : (canon A').length ≤ 16777000 := Nat.le_trans (canon_len A') (Nat.le_trans hA.len (by decide))
  have hlA : A'.length ≤ 16777000 := Nat.le_trans hA.len (by decide)
  refine ⟨CP K, canon A', _, rfl, pP, hcan.bx, hlc, ?_⟩
  (refine ws_if ?_; refine wt_or ?_; refine wt_test ?_; refine we_op ?_; refine we_var rfl ?_; refine we_call ?_; refine wa_cons ?_; refine we_var rfl ?_; refine wa_nil ?_)
  refine ⟨A', _, rfl, hA.lb.bx, hlA, ?_⟩
  rw [topL_perm (nz_self hA.lb).symm]
  refine top_ne _ ?_
  (refine ⟨_, rfl, ?_⟩; refine ⟨fun z => Bool.noConfusion (show true = false from by first | exact z | exact z.symm), fun _ => ?_⟩; refine wt_or ?_; refine wt_B ?_; (first | refine we_cb ?_ | refine we_xlen ?_); refine wa_cons ?_; refine we_var rfl ?_; refine wa_cons ?_; refine we_c ?_; refine wa_nil ?_)
  refine top_isb _ ?_
  (refine ⟨_, rfl, ?_⟩; refine ⟨fun z => Bool.noConfusion (show true = false from by first | exact z | exact z.symm), fun _ => ?_⟩; refine wt_test ?_; refine we_op ?_; refine we_call ?_; refine wa_cons ?_; refine we_var rfl ?_; refine wa_cons ?_; refine we_var rfl ?_; refine wa_nil ?_)
  refine ⟨CP K, canon A', _, x, rfl, pP, hcan.bx, hx4, hlc, ?_⟩
  (refine we_call ?_; refine wa_cons ?_; refine we_var rfl ?_; refine wa_cons ?_; refine we_var rfl ?_; refine wa_nil ?_)
  refine ⟨A', _, x, rfl, hA.lb.bx, hx4, hlA, ?_⟩
  rw [degP_perm (nz_self hA.lb).symm]
  (refine ot_ne rfl ?_; refine ⟨_, rfl, ?_⟩)
  rw [decide_eq_true (rfl : V.int ((degP A' x : Nat) : Int) = V.int ((degP A' x : Nat) : Int))]
  refine ⟨fun z => Bool.noConfusion (show false = true from z), fun _ => ?_⟩
  ((first | exact ws_end (by assumption) (by assumption) | refine ws_thru ?_); refine ws_if ?_; refine wt_or ?_; refine wt_not ?_; refine wt_B ?_; refine we_call ?_; refine wa_cons ?_; refine we_call ?_; refine wa_cons ?_; refine we_var rfl ?_; refine wa_cons ?_; refine we_var rfl ?_; refine wa_nil ?_)
  have g0 := hA.lb.grp hx4 (degP A' x)
  have g1 := hA.lb.slope hx4 (M := 240) (at_top _ hx4)
  have g2 := hA.lb.exch hx4 hy4
  refine ⟨CP K, canon A', _, x, rfl, pP, hcan.bx, hx4, hlc, ?_, ?_⟩
  · refine Nat.le_trans (degP_le fun t ht => (hcan.bx.exp ht hx4).2) (Nat.le_trans (at_top _ hx4) (by decide))
  (refine wa_cons ?_; refine we_call ?_; refine wa_cons ?_; refine we_var rfl ?_; refine wa_cons ?_; refine we_var rfl ?_; refine wa_nil ?_)
  refine ⟨A', _, _, x, rfl, hA.lb, hx4, hlA, ?_⟩
  (refine wa_nil ?_)
  rw [lead_can hA.lb hx4]
  refine ⟨CR K, _, _, _, rfl, pR, g0, Nat.le_trans (grp_len _ _ _) hlA, ?_⟩
  (refine ⟨_, rfl, ?_⟩; refine ⟨fun z => Bool.noConfusion (show true = false from by first | exact z | exact z.symm), fun _ => ?_⟩; refine wt_not ?_; refine wt_B ?_; refine we_call ?_; refine wa_cons ?_; refine we_call ?_; refine wa_cons ?_; refine we_var rfl ?_; refine wa_cons ?_; refine we_var rfl ?_; refine wa_nil ?_)
  refine ⟨CP K, canon A', _, x, 210, rfl, pP, hcan.bx, hcan.can.nd, bdP_of hcan.l (Nat.pow_lt_pow_right (by decide) (by decide)), by decide, by decide, Nat.lt_of_le_of_lt (at_top _ hx4) (by decide), hx4, hlc, ?_⟩
  (refine wa_cons ?_; refine we_call ?_; refine wa_cons ?_; refine we_var rfl ?_; refine wa_cons ?_; refine we_var rfl ?_; refine wa_nil ?_)
  refine ⟨A', _, x, 210, rfl, hA.lb.bx, hA.lb.nd, bdP_of hA.lb.l (Nat.pow_lt_pow_right (by decide) (by decide)), by decide, by decide, Nat.lt_of_le_of_lt (at_top _ hx4) (by decide), hx4, hlA, ?_⟩
  (refine wa_nil ?_)
  rw [slope_can hA.lb hx4]
  refine ⟨CR K, _, _, _, rfl, pR, g1, Nat.le_trans (slF_len _ _) hlA, ?_⟩
  (refine ⟨_, rfl, ?_⟩; refine ⟨fun z => Bool.noConfusion (show true = false from by first | exact z | exact z.symm), fun _ => ?_⟩; (first | exact ws_end (by assumption) (by assumption) | refine ws_thru ?_); refine ws_retS (by assumption) ?_; refine we_call ?_; refine wa_cons ?_; refine we_call ?_; refine wa_cons ?_; refine we_var rfl ?_; refine wa_cons ?_; refine we_var rfl ?_; refine wa_cons ?_; refine we_var rfl ?_; refine wa_nil ?_)
  refine ⟨CP K, canon A', _, x, y, rfl, pP, hcan.bx, hcan.can.nd, hx4, hy4, hlc, ?_⟩
  (refine wa_cons ?_; refine we_call ?_; refine wa_cons ?_; refine we_var rfl ?_; refine wa_cons ?_; refine we_var rfl ?_; refine wa_cons ?_; refine we_var rfl ?_; refine wa_nil ?_)
  refine ⟨A', _, x, y, rfl, hA.lb.bx, hA.lb.nd, hx4, hy4, hlA, ?_⟩
  (refine wa_nil ?_)
  rw [exch_can hA.lb hx4 hy4]
  refine ⟨CR K, _, _, _, rfl, pR, g2, ?_, ?_⟩
  · show (A'.map _).length ≤ _
    rw [List.length_map]
    exact hlA
  exact hk
end Lw
set_option Elab.async false
set_option linter.all false
set_option maxRecDepth 100000
set_option maxHeartbeats 1000000
namespace Lw
open PySem PySem.Spec PyProof.Rows L2 BX
def S_L_is_worth_right (P : Program) (w : World) (K : PySem.W.Frag) : Spc := fun rs k => ∃ a : Two, S_two P w K a rs k
theorem ok_L_is_worth_right {P : Program} {w : World} {K : PySem.W.Frag} {mg : Str → Option Value} {base : Heap} {f : Addr} {fd fd_worth fd_plus fd_L_low fd_times fd_L_worth fd_L_packed fd_L_mark fd_L_draw fd_L_any : FuncData} (T : Txt K mg) (F : FunD K "_law_is_worth_right" "_law_is_worth_right" (defArgs s_L_is_worth_right) (defBody s_L_is_worth_right) (defScope s_L_is_worth_right) [] [] f fd) (c_worth : Callee P w K mg base (He.ga K "worth") fd_worth ["poly", "point"] 44 (spOf (S_worth P w K))) (c_plus : Callee P w K mg base (He.ga K "plus") fd_plus ["one", "other"] 5 (spOf (S_plus P w K))) (c_L_low : Callee P w K mg base (He.ga K "_law_low") fd_L_low ["_law_above", "_law_bottom"] 40 (spOf (S_L_low P w K))) (c_times : Callee P w K mg base (He.ga K "times") fd_times ["one", "other"] 4 (spOf (S_times P w K))) (c_L_worth : Callee P w K mg base (He.ga K "_law_worth") fd_L_worth ["_law_poly", "_law_point"] 41 (spOf (S_L_worth P w K))) (c_L_packed : Callee P w K mg base (He.ga K "_law_packed") fd_L_packed ["_law_thing"] 6 (spOf (S_L_packed P w K))) (c_L_mark : Callee P w K mg base (He.ga K "_law_mark") fd_L_mark ["_law_parts"] 1 (spOf (S_L_mark P w K))) (c_L_draw : Callee P w K mg base (He.ga K "_law_draw") fd_L_draw ["_law_hand_here", "_law_many"] 1 (spOf (S_L_draw P w K))) (c_L_any : Callee P w K mg base (He.ga K "_law_any") fd_L_any ["_law_hand_here", "_law_things"] 2 (spOf (S_L_any P w K))) (pP : PolyC K (CP K)) (pR : PolyC K (CR K)) :
    FnOk P w K mg base CX0 45 f fd ["_law_hand_here", "_law_one", "_law_other"] (spOf (S_L_is_worth_right P w K)) := by
  refine F.ok sc_L_is_worth_right (len_of (by intro rs k h; first | (obtain ⟨e, _⟩ := h; subst e; exact rfl) | (obtain ⟨_, e, _⟩ := h; subst e; exact rfl) | (obtain ⟨_, _, e, _⟩ := h; subst e; exact rfl) | (obtain ⟨_, _, _, e, _⟩ := h; subst e; exact rfl) | (obtain ⟨_, _, _, _, e, _⟩ := h; subst e; exact rfl) | (obtain ⟨_, _, _, _, _, e, _⟩ := h; subst e; exact rfl) | (obtain ⟨_, _, _, _, _, _, e, _⟩ := h; subst e; exact rfl) | (obtain ⟨_, _, _, _, _, _, _, e, _⟩ := h; subst e; exact rfl) | (obtain ⟨_, _, _, _, _, _, _, _, e, _⟩ := h; subst e; exact rfl) | (obtain ⟨_, _, _, _, _, _, _, _, _, e, _⟩ := h; subst e; exact rfl) | (obtain ⟨_, _, _, _, _, _, _, _, _, _, e, _⟩ := h; subst e; exact rfl) | (obtain ⟨_, _, _, _, _, _, _, _, _, _, _, e, _⟩ := h; subst e; exact rfl) | (obtain ⟨_, _, _, _, _, _, _, _, _, _, _, _, e, _⟩ := h; subst e; exact rfl))) (fun cdv A outer s H vs Q E hr h => ?_)
  
  refine ⟨_, PSs.nox (pss_cons (ps_set (i := 3) sc_L_is_worth_right.nd rfl (by first | exact Or.inl rfl | exact Or.inr rfl) (pe_lst pa_nil)) (pss_cons (ps_for PassesOwn.never rfl (pi_range1 rfl T.b_range (pa_cons pe_int pa_nil)) (pg_name (i := 4) sc_L_is_worth_right.nd rfl (by first | exact Or.inl rfl | exact Or.inr rfl)) (pss_cons (ps_set (i := 10) sc_L_is_worth_right.nd rfl (by first | exact Or.inl rfl | exact Or.inr rfl) (pe_call (c_L_any.F.mono (by decide)) hr rfl T.g_L_any c_L_any.kp c_L_any.b .nil pass0 (pa_cons (pv 0) (pa_cons (pe_frz (pe_lst (pa_cons pe_int (pa_cons pe_int (pa_cons pe_int (pa_cons pe_int (pa_cons (pe_op op_add (pe_op op_pow pe_int pe_int) pe_int) pa_nil))))))) pa_nil)))) (pss_cons (ps_expr (q_append (K := K) rfl (pv 3) (pa_cons (pe_call (c_L_low.F.mono (by decide)) hr rfl T.g_L_low c_L_low.kp c_L_low.b .nil pass0 (pa_cons (pe_op op_sub (pe_call (c_L_draw.F.mono (by decide)) hr rfl T.g_L_draw c_L_draw.kp c_L_draw.b .nil pass0 (pa_cons (pv 0) (pa_cons pe_int pa_nil))) pe_int) (pa_cons (pv 10) pa_nil))) pa_nil))) pss_nil))) (pss_frz 3 (pss_cons (ps_par (i := 5) (j := 6) (by rfl) sc_L_is_worth_right.nd rfl rfl (by decide) rfl rfl (pa_cons (pe_call (c_L_packed.F.mono (by decide)) hr rfl T.g_L_packed c_L_packed.kp c_L_packed.b .nil pass0 (pa_cons (pe_call (c_L_mark.F.mono (by decide)) hr rfl T.g_L_mark c_L_mark.kp c_L_mark.b .nil pass0 (pa_cons (pv 1) pa_nil)) pa_nil)) (pa_cons (pe_call (c_L_packed.F.mono (by decide)) hr rfl T.g_L_packed c_L_packed.kp c_L_packed.b .nil pass0 (pa_cons (pe_call (c_L_mark.F.mono (by decide)) hr rfl T.g_L_mark c_L_mark.kp c_L_mark.b .nil pass0 (pa_cons (pv 2) pa_nil)) pa_nil)) pa_nil)) (by rfl)) (pss_cons (ps_par (i := 7) (j := 8) (by rfl) sc_L_is_worth_right.nd rfl rfl (by decide) rfl rfl (pa_cons (pe_call (c_worth.F.mono (by decide)) hr rfl T.g_worth c_worth.kp c_worth.b .nil pass0 (pa_cons (pv 5) (pa_cons (pe_callTy (k_tupleOf (K := K) rfl) rfl T.b_tuple boot_tuple (pa_cons (pv 3) pa_nil)) pa_nil))) (pa_cons (pe_call (c_L_worth.F.mono (by decide)) hr rfl T.g_L_worth c_L_worth.kp c_L_worth.b .nil pass0 (pa_cons (pv 1) (pa_cons (pv 3) pa_nil))) pa_nil)) (by rfl)) (pss_cons (ps_if (PW.pt (pw_or (pt_cmpR (k_neD (K := K) rfl hr.units) (pv 7) (pv 8) (nomark _)) (pw_or1 (pt_cmpR (k_neD (K := K) rfl hr.units) (pe_call (c_worth.F.mono (by decide)) hr rfl T.g_worth c_worth.kp c_worth.b .nil pass0 (pa_cons (pv 6) (pa_cons (pe_callTy (k_tupleOf (K := K) rfl) rfl T.b_tuple boot_tuple (pa_cons (pv 3) pa_nil)) pa_nil))) (pe_call (c_L_worth.F.mono (by decide)) hr rfl T.g_L_worth c_L_worth.kp c_L_worth.b .nil pass0 (pa_cons (pv 2) (pa_cons (pv 3) pa_nil))) (nomark _))))) (pss_cons (ps_ret pe_bl) pss_nil) pss_nil) (pss_cons (ps_set (i := 9) sc_L_is_worth_right.nd rfl (by first | exact Or.inl rfl | exact Or.inr rfl) (pe_call (c_L_worth.F.mono (by decide)) hr rfl T.g_L_worth c_L_worth.kp c_L_worth.b .nil pass0 (pa_cons (pv 2) (pa_cons (pv 3) pa_nil)))) (pss_cons (ps_if (pt_cmpR (k_neD (K := K) rfl hr.units) (pe_call (c_worth.F.mono (by decide)) hr rfl T.g_worth c_worth.kp c_worth.b .nil pass0 (pa_cons (pe_call (c_times.F.mono (by decide)) hr rfl T.g_times c_times.kp c_times.b .nil pass0 (pa_cons (pv 5) (pa_cons (pv 6) pa_nil))) (pa_cons (pe_callTy (k_tupleOf (K := K) rfl) rfl T.b_tuple boot_tuple (pa_cons (pv 3) pa_nil)) pa_nil))) (pe_call (c_L_low.F.mono (by decide)) hr rfl T.g_L_low c_L_low.kp c_L_low.b .nil pass0 (pa_cons (pe_op op_mulW (pe_ix (k_ixT (K := K) rfl) (pv 8) pe_int (fun _ _ => rfl)) (pe_ix (k_ixT (K := K) rfl) (pv 9) pe_int (fun _ _ => rfl))) (pa_cons (pe_op op_mulW (pe_ix (k_ixT (K := K) rfl) (pv 8) pe_int (fun _ _ => rfl)) (pe_ix (k_ixT (K := K) rfl) (pv 9) pe_int (fun _ _ => rfl))) pa_nil))) (nomark _)) (pss_cons (ps_ret pe_bl) pss_nil) pss_nil) (pss_cons (ps_ret (pe_cmpR (k_eqD (K := K) rfl hr.units) (pe_call (c_worth.F.mono (by decide)) hr rfl T.g_worth c_worth.kp c_worth.b .nil pass0 (pa_cons (pe_call (c_plus.F.mono (by decide)) hr rfl T.g_plus c_plus.kp c_plus.b .nil pass0 (pa_cons (pv 5) (pa_cons (pv 6) pa_nil))) (pa_cons (pe_callTy (k_tupleOf (K := K) rfl) rfl T.b_tuple boot_tuple (pa_cons (pv 3) pa_nil)) pa_nil))) (pe_call (c_L_low.F.mono (by decide)) hr rfl T.g_L_low c_L_low.kp c_L_low.b .nil pass0 (pa_cons (pe_op op_add (pe_op op_mulW (pe_ix (k_ixT (K := K) rfl) (pv 8) pe_int (fun _ _ => rfl)) (pe_ix (k_ixT (K := K) rfl) (pv 9) pe_int (fun _ _ => rfl))) (pe_op op_mulW (pe_ix (k_ixT (K := K) rfl) (pv 9) pe_int (fun _ _ => rfl)) (pe_ix (k_ixT (K := K) rfl) (pv 8) pe_int (fun _ _ => rfl)))) (pa_cons (pe_op op_mulW (pe_ix (k_ixT (K := K) rfl) (pv 8) pe_int (fun _ _ => rfl)) (pe_ix (k_ixT (K := K) rfl) (pv 9) pe_int (fun _ _ => rfl))) pa_nil))) (nomark _))) pss_nil))))))))), ?_⟩
  refine read_of P w K h rfl fun rs k D hs hD hN => ?_
  obtain ⟨⟨⟨A', B'⟩, hA, hB⟩, rfl, hk⟩ := hs
  have hA : SmOk A' := hA
  have hB : SmOk B' := hB
  (refine ws_asgL ?_; refine wl_lst ?_; refine wa_nil ?_; refine ⟨Nat.le_of_ble_eq_true rfl, ?_⟩)
  refine ws_forQ (fun j (s : List Rat) => s.length = j ∧ ∀ p, p ∈ s → p.num.natAbs < 2 ^ 31 ∧ p.den < 2 ^ 31) ([] : List Rat) (fun s => [.im (rHand P w), .im (rDI P w K A'), .im (rDI P w K B'), .ml (s.map (rQ K)), .no, .no, .no, .no, .no, .no, .no]) ?_
  (refine wi_rng1 ?_; refine wa_cons ?_; refine we_c ?_; refine wa_nil ?_; refine ⟨_, rfl, ?_⟩)
  refine ⟨by decide, by decide, by (repeat' (first | exact Weak.nil | apply Weak.eq | apply Weak.no)), ⟨rfl, fun p hp => nomatch hp⟩, fun j hj s hI G st => ?_, fun s hI => ?_⟩
  · refine ⟨_, _, wg_name, ?_⟩
    ((first | refine ws_asg ?_ | refine ws_asgG ?_); refine we_call ?_; refine wa_cons ?_; refine we_var rfl ?_; refine wa_cons ?_; (refine we_frzL ?_; refine wl_lst ?_); refine wa_cons ?_; refine we_c ?_; refine wa_cons ?_; refine we_c ?_; refine wa_cons ?_; refine we_c ?_; refine wa_cons ?_; refine we_c ?_; refine wa_cons ?_; refine we_op ?_; refine we_op ?_; refine we_c ?_; refine we_c ?_; refine ot_I ?_ ?_)
    · exact ⟨by decide, by decide⟩
    (refine we_c ?_; refine ot_I0 ?_; refine wa_nil ?_; refine ⟨Nat.le_of_ble_eq_true rfl, ?_⟩; refine wa_nil ?_)
    refine ⟨_, rfl, by decide, by decide, fun r hr => ?_⟩
    obtain ⟨b, rfl, hb0, hb⟩ : ∃ b : Nat, r = rInt (b : Int) ∧ 0 < b ∧ b < 2 ^ 31 := by
      simp only [List.mem_cons, List.not_mem_nil, or_false] at hr
      rcases hr with rfl | rfl | rfl | rfl | rfl
      · exact ⟨1, rfl, by decide, by decide⟩
      · exact ⟨1, rfl, by decide, by decide⟩
      · exact ⟨2, rfl, by decide, by decide⟩
      · exact ⟨7, rfl, by decide, by decide⟩
      · exact ⟨1000000007, rfl, by decide, by decide⟩
    ((first | refine ws_app rfl ?_ | refine ws_drop ?_); refine we_call ?_; refine wa_cons ?_; refine we_op ?_; refine we_call ?_; refine wa_cons ?_; refine we_var rfl ?_; refine wa_cons ?_; refine we_c ?_; refine wa_nil ?_)
    refine ⟨9, rfl, by decide, by decide, fun d d0 d1 => ?_⟩
    (refine we_c ?_; refine ot_I0 ?_; refine wa_cons ?_; refine we_var rfl ?_; refine wa_nil ?_)
    refine ⟨d - 4, b, rfl, hb0, ?_⟩
    skip
    refine ⟨by rw [List.length_map, hI.1, sizeLine_eq]; have hj4 : j < 4 := hj; omega, ?_⟩
    skip
    have em : s.map (rQ K) ++ [rQ K (mkRat (d - 4) b)] = (s ++ [mkRat (d - 4) b]).map (rQ K) := by rw [List.map_append]; rfl
    rw [em]
    refine ws_nextI rfl (s ++ [mkRat (d - 4) b]) ⟨by rw [List.length_append, hI.1]; rfl, fun p hp => ?_⟩ (by (repeat' (first | exact Weak.nil | apply Weak.eq | apply Weak.no)))
    rcases List.mem_append.mp hp with hp | hp
    · exact hI.2 p hp
    · rw [List.mem_singleton] at hp
      subst hp
      have q : QD b 4 (mkRat (d - 4) b) := ⟨hb0, d - 4, rfl, by omega⟩
      exact ⟨Nat.lt_of_le_of_lt q.num (by decide), Nat.lt_of_le_of_lt q.den hb⟩
  obtain ⟨hl, hs⟩ := hI
  ((first | refine ws_frzX rfl ?_ | refine ws_frzL rfl ?_); refine ws_par ?_; refine wa_cons ?_; refine we_call ?_; refine wa_cons ?_; refine we_call ?_; refine wa_cons ?_; refine we_var rfl ?_; refine wa_nil ?_)
  refine ⟨_, rfl, ?_⟩
  (refine wa_nil ?_)
  refine ⟨A', rfl, hA.tsb, ?_⟩
  (refine wa_cons ?_; refine we_call ?_; refine wa_cons ?_; refine we_call ?_; refine wa_cons ?_; refine we_var rfl ?_; refine wa_nil ?_)
  refine ⟨_, rfl, ?_⟩
  (refine wa_nil ?_)
  refine ⟨B', rfl, hB.tsb, ?_⟩
  (refine wa_nil ?_)
  have h200 : (2 : Nat) ^ 200 < 2 ^ 450000 := Nat.pow_lt_pow_right (by decide) (by decide)
  have h201 : (2 : Nat) ^ 200 < 2 ^ 201 := Nat.pow_lt_pow_right (by decide) (by decide)
  have l40 : A'.length + B'.length ≤ 16777000 := by have := hA.len; have := hB.len; omega
  have m40 : A'.length * B'.length ≤ 16777000 := Nat.le_trans (Nat.mul_le_mul hA.len hB.len) (by decide)
  have hcA := hA.lb.pb.1
  have hcB := hB.lb.pb.1
  have lA : A'.length ≤ 16777000 := by omega
  have lB : B'.length ≤ 16777000 := by omega
  have lcA : (canon A').length ≤ 16777000 := Nat.le_trans (canon_len A') lA
  have lcB : (canon B').length ≤ 16777000 := Nat.le_trans (canon_len B') lB
  have hP : PtOk s s (bq 60) 31 := ⟨⟨hl, hs⟩, fun _ _ => rfl, by rw [hl]; decide, fun j hj h => by rw [hl] at h; exact absurd hj (Nat.not_lt.mpr h)⟩
  have eA : wR s (canon A') = wR s A' := wR_pol s hA.lb.pb.2
  have eB' : wR s (canon B') = wR s B' := wR_pol s hB.lb.pb.2
  have qA : QB 8000 (wR s A') := (wR_qb hP.pb hA.lb.bx (Nat.lt_of_le_of_lt hA.lb.l h201)).mono (by decide)
  have qB : QB 8000 (wR s B') := (wR_qb hP.pb hB.lb.bx (Nat.lt_of_le_of_lt hB.lb.l h201)).mono (by decide)
  refine ⟨_, _, rfl, ?_⟩
  (refine ws_par ?_; refine wa_cons ?_; refine we_call ?_; refine wa_cons ?_; refine we_var rfl ?_; refine wa_cons ?_; (first | refine we_cb ?_ | refine we_xlen ?_); refine wa_cons ?_; refine we_var rfl ?_; refine wa_nil ?_; refine ct_tuple ?_; refine wa_nil ?_)
  refine ⟨CP K, canon A', bq 60, s, 31, 201, rfl, pP, hcA.bx, hP.pb, Nat.lt_of_le_of_lt hcA.l h201, by decide, by decide, lcA, ?_⟩
  rw [eA]
  (refine wa_cons ?_; refine we_call ?_; refine wa_cons ?_; refine we_var rfl ?_; refine wa_cons ?_; refine we_var rfl ?_; refine wa_nil ?_)
  refine ⟨A', bq 60, s, s, _, 31, 201, rfl, .inr rfl, hP, hA.lb.bx, hA.lb.nd, Nat.lt_of_le_of_lt hA.lb.l h201, by decide, by decide, lA, ?_⟩
  (refine wa_nil ?_)
  refine ⟨_, _, rfl, ?_⟩
  (refine ws_if ?_; refine wt_or ?_; refine wt_test ?_; refine we_op ?_; refine we_var rfl ?_; refine we_var rfl ?_)
  refine ot_neK ?_
  rw [decide_eq_true rfl]
  (refine ⟨_, rfl, ?_⟩; refine ⟨fun z => Bool.noConfusion (show true = false from by first | exact z | exact z.symm), fun _ => ?_⟩; refine wt_test ?_; refine we_op ?_; refine we_call ?_; refine wa_cons ?_; refine we_var rfl ?_; refine wa_cons ?_; (first | refine we_cb ?_ | refine we_xlen ?_); refine wa_cons ?_; refine we_var rfl ?_; refine wa_nil ?_; refine ct_tuple ?_; refine wa_nil ?_)
  refine ⟨CP K, canon B', bq 60, s, 31, 201, rfl, pP, hcB.bx, hP.pb, Nat.lt_of_le_of_lt hcB.l h201, by decide, by decide, lcB, ?_⟩
  rw [eB']
  (refine we_call ?_; refine wa_cons ?_; refine we_var rfl ?_; refine wa_cons ?_; refine we_var rfl ?_; refine wa_nil ?_)
  refine ⟨B', bq 60, s, s, _, 31, 201, rfl, .inr rfl, hP, hB.lb.bx, hB.lb.nd, Nat.lt_of_le_of_lt hB.lb.l h201, by decide, by decide, lB, ?_⟩
  refine ot_neK ?_
  rw [decide_eq_true rfl]
  (refine ⟨_, rfl, ?_⟩; refine ⟨fun z => Bool.noConfusion (show true = false from by first | exact z | exact z.symm), fun _ => ?_⟩; (first | exact ws_end (by assumption) (by assumption) | refine ws_thru ?_); (first | refine ws_asg ?_ | refine ws_asgG ?_); refine we_call ?_; refine wa_cons ?_; refine we_var rfl ?_; refine wa_cons ?_; refine we_var rfl ?_; refine wa_nil ?_)
  refine ⟨B', bq 60, s, s, _, 31, 201, rfl, .inr rfl, hP, hB.lb.bx, hB.lb.nd, Nat.lt_of_le_of_lt hB.lb.l h201, by decide, by decide, lB, ?_⟩
  (refine ws_if ?_; refine wt_test ?_; refine we_op ?_; refine we_call ?_; refine wa_cons ?_; refine we_call ?_; refine wa_cons ?_; refine we_var rfl ?_; refine wa_cons ?_; refine we_var rfl ?_; refine wa_nil ?_)
  refine times_len pP pP hA.lb hB.lb m40 h200 h200 ?_
  rw [can_mul hA.lb hB.lb]
  (refine wa_cons ?_; (first | refine we_cb ?_ | refine we_xlen ?_); refine wa_cons ?_; refine we_var rfl ?_; refine wa_nil ?_; refine ct_tuple ?_; refine wa_nil ?_)
  have s3 := (hA.lb.mul hB.lb).1
  have e3 : wR s (canon (nz (mulP A' B'))) = wR s A' * wR s B' := wR_mul s hA.lb.bx hB.lb.bx (by rw [s3.pb.2]; exact (hA.lb.mul hB.lb).2)
  have hc3 := s3.pb.1
  have h401 : (2 : Nat) ^ 200 * 2 ^ 200 < 2 ^ 401 := by rw [← Nat.pow_add]; exact Nat.pow_lt_pow_right (by decide) (by decide)
  refine ⟨CR K, _, _, s, 31, 401, rfl, pR, hc3.bx, hP.pb, Nat.lt_of_le_of_lt hc3.l h401, by decide, by decide, Nat.le_trans (canon_len _) (Nat.le_trans (mul_len _ _) m40), ?_⟩
  rw [e3]
  (refine we_call ?_; refine wa_cons ?_; refine we_op ?_; refine we_op ?_; refine we_var rfl ?_; refine we_c ?_)
  refine ot_ixT (r := rInt (wR s A').num) rfl ?_
  (refine we_op ?_; refine we_var rfl ?_; refine we_c ?_)
  refine ot_ixT (r := rInt (wR s B').num) rfl ?_
  (refine ot_I ?_ ?_)
  · exact qb_mul qA qB (by decide) (by decide) (.inl rfl) (.inl rfl)
  (refine wa_cons ?_; refine we_op ?_; refine we_op ?_; refine we_var rfl ?_; refine we_c ?_)
  refine ot_ixT (r := rInt ((wR s A').den : Int)) rfl ?_
  (refine we_op ?_; refine we_var rfl ?_; refine we_c ?_)
  refine ot_ixT (r := rInt ((wR s B').den : Int)) rfl ?_
  (refine ot_I ?_ ?_)
  · exact qb_mul qA qB (by decide) (by decide) (.inr rfl) (.inr rfl)
  (refine wa_nil ?_)
  refine ⟨_, (wR s A').den * (wR s B').den, by rw [Int.natCast_mul], Nat.mul_pos (Rat.den_pos _) (Rat.den_pos _), ?_⟩
  rw [← Rat.mul_def']
  refine ot_neK ?_
  rw [decide_eq_true rfl]
  (refine ⟨_, rfl, ?_⟩; refine ⟨fun z => Bool.noConfusion (show true = false from by first | exact z | exact z.symm), fun _ => ?_⟩; (first | exact ws_end (by assumption) (by assumption) | refine ws_thru ?_); refine ws_retS (by assumption) ?_; refine we_op ?_; refine we_call ?_; refine wa_cons ?_; refine we_call ?_; refine wa_cons ?_; refine we_var rfl ?_; refine wa_cons ?_; refine we_var rfl ?_; refine wa_nil ?_)
  refine plus_of pP pP hA.lb hB.lb l40 h200 ?_
  rw [can_sum hA.lb hB.lb (by decide)]
  (refine wa_cons ?_; (first | refine we_cb ?_ | refine we_xlen ?_); refine wa_cons ?_; refine we_var rfl ?_; refine wa_nil ?_; refine ct_tuple ?_; refine wa_nil ?_)
  have s1 := (hA.lb.sum hB.lb (s := 1) (by decide)).1
  have e1 : wR s (canon (nz (sumP A' B' 1))) = wR s A' + wR s B' := by
    rw [wR_add (A := A') (B := B') s 1 (by rw [s1.pb.2]; exact (hA.lb.sum hB.lb (s := 1) (by decide)).2)]
    rw [Rat.intCast_one, Rat.one_mul]
  have hc1 := s1.pb.1
  have h402 : (2 : Nat) ^ 200 + 2 ^ 200 < 2 ^ 401 := by decide
  refine ⟨CR K, _, _, s, 31, 401, rfl, pR, hc1.bx, hP.pb, Nat.lt_of_le_of_lt hc1.l h402, by decide, by decide, Nat.le_trans (canon_len _) (Nat.le_trans (sum_len _ _ _) l40), ?_⟩
  rw [e1]
  (refine we_call ?_; refine wa_cons ?_; refine we_op ?_; refine we_op ?_; refine we_op ?_; refine we_var rfl ?_; refine we_c ?_)
  refine ot_ixT (r := rInt (wR s A').num) rfl ?_
  (refine we_op ?_; refine we_var rfl ?_; refine we_c ?_)
  refine ot_ixT (r := rInt ((wR s B').den : Int)) rfl ?_
  (refine ot_I ?_ ?_)
  · exact qb_mul qA qB (by decide) (by decide) (.inl rfl) (.inr rfl)
  (refine we_op ?_; refine we_op ?_; refine we_var rfl ?_; refine we_c ?_)
  refine ot_ixT (r := rInt (wR s B').num) rfl ?_
  (refine we_op ?_; refine we_var rfl ?_; refine we_c ?_)
  refine ot_ixT (r := rInt ((wR s A').den : Int)) rfl ?_
  (refine ot_I ?_ ?_)
  · exact qb_mul qB qA (by decide) (by decide) (.inl rfl) (.inr rfl)
  (refine ot_I0 ?_; refine wa_cons ?_; refine we_op ?_; refine we_op ?_; refine we_var rfl ?_; refine we_c ?_)
  refine ot_ixT (r := rInt ((wR s A').den : Int)) rfl ?_
  (refine we_op ?_; refine we_var rfl ?_; refine we_c ?_)
  refine ot_ixT (r := rInt ((wR s B').den : Int)) rfl ?_
  (refine ot_I ?_ ?_)
  · exact qb_mul qA qB (by decide) (by decide) (.inr rfl) (.inr rfl)
  (refine wa_nil ?_)
  refine ⟨_, (wR s A').den * (wR s B').den, by rw [Int.natCast_mul], Nat.mul_pos (Rat.den_pos _) (Rat.den_pos _), ?_⟩
  rw [← Rat.add_def']
  refine ot_eqK ?_
  rw [decide_eq_true rfl]
  exact hk
end Lw
set_option Elab.async false
set_option linter.all false
set_option maxRecDepth 100000
set_option maxHeartbeats 1000000
namespace Lw
open PySem PySem.Spec PyProof.Rows L2 BX
theorem ws_parXX {B : Bd} {Γ : BX.Ctx} {D : Ends} {ta tb : TE} {i j : Nat} {tz : TS} (h : WpX B Γ ta fun ks => WpX B Γ tb fun ls => WpS B D ((Γ.set i (.mx ks)).set j (.mx ls)) tz) : WpS B D Γ (tSeq (tPar i j (tCons ta (tCons tb tNil))) tz) := fun σ H E =>
  h σ H E _ fun ks p es H1 h1 hp e1 hx hal => h1 σ H1 (E.mono e1) _ fun ls p2 es2 H2 h2 hp2 e2 hx2 hal2 =>
    ⟨_, _, rfl, h2 _ _ ((E.setM (t := .mx ks) i e1 hp ⟨p, es, rfl, E.ex.free hp, hx, hal⟩).setM (t := .mx ls) j e2 hp2 ⟨p2, es2, rfl, (Same.trans E.ex e1).free hp2, hx2, hal2⟩)⟩
def gb : B4 := ⟨60, 60, 60, 0⟩
/-- one of the two of a great product -/
structure GrOk (m : PT) : Prop where
  lb : LB gb 80 m
  len : m.length ≤ 19
theorem in_gb {ys : List Int} (hp : Paired (fun (j : Nat) (y : Int) => 0 ≤ y ∧ y ≤ (gb.at j : Int)) (List.range 4) ys) : In gb ys := by
  rw [show List.range 4 = [0, 1, 2, 3] from rfl] at hp
  cases hp with
  | cons h0 t =>
    cases t with
    | cons h1 t =>
      cases t with
      | cons h2 t =>
        cases t with
        | cons h3 t =>
          cases t
          rename_i a b c d
          refine ⟨a.toNat, b.toNat, c.toNat, d.toNat, by rw [Int.toNat_of_nonneg h0.1, Int.toNat_of_nonneg h1.1, Int.toNat_of_nonneg h2.1, Int.toNat_of_nonneg h3.1], ?_, ?_, ?_, ?_⟩
          · have : a ≤ ((60 : Nat) : Int) := h0.2
            show a.toNat ≤ 60; omega
          · have : b ≤ ((60 : Nat) : Int) := h1.2
            show b.toNat ≤ 60; omega
          · have : c ≤ ((60 : Nat) : Int) := h2.2
            show c.toNat ≤ 60; omega
          · have : d ≤ ((0 : Nat) : Int) := h3.2
            show d.toNat ≤ 0; omega
/-- a table as it grows: a term for each power of an unknown -/
structure GcI (i j : Nat) (m : PT) : Prop where
  nd : (m.map (·.1)).Nodup
  nz : ∀ e ∈ m, e.2 ≠ 0
  bx : Bx gb m
  l : l1 m ≤ j * 4
  len : m.length = j
  lt : ∀ e ∈ m, e.1.getD i 0 < (j : Int)
theorem GcI.nil (i : Nat) : GcI i 0 [] := ⟨List.nodup_nil, fun _ h => (nomatch h), fun _ h => (nomatch h), Nat.zero_le _, rfl, fun _ h => (nomatch h)⟩
theorem GcI.ok {i : Nat} {m : PT} (h : GcI i 19 m) : GrOk m := ⟨⟨h.nd, h.nz, h.bx, Nat.le_trans h.l (by decide)⟩, Nat.le_of_eq h.len⟩
theorem GcI.put {i j : Nat} {m : PT} (h : GcI i j m) {k : List Int} {c : Int} (hk : In gb k) (hj : k.getD i 0 = (j : Int)) (hc : c ≠ 0) (hc4 : c.natAbs ≤ 4) : GcI i (j + 1) (putM m k c) := by
  have hn : k ∉ m.map (·.1) := fun z => by
    obtain ⟨e, he, rfl⟩ := List.mem_map.mp z
    have := h.lt e he
    omega
  have hmem : ∀ {e : List Int × Int}, e ∈ m ++ [(k, c)] → e ∈ m ∨ e = (k, c) := fun he => by
    rcases List.mem_append.mp he with he | he
    · exact .inl he
    · exact .inr (List.mem_singleton.mp he)
  rw [putM_new hn]
  refine ⟨?_, fun e he => ?_, fun e he => ?_, ?_, by rw [List.length_append, h.len]; rfl, fun e he => ?_⟩
  · rw [List.map_append, List.nodup_append]
    refine ⟨h.nd, List.pairwise_singleton _ _, fun a ha b hb => ?_⟩
    rw [List.mem_singleton.mp hb]
    exact fun z => hn (by rw [← show a = k from z]; exact ha)
  · rcases hmem he with he | rfl
    · exact h.nz e he
    · exact hc
  · rcases hmem he with he | rfl
    · exact h.bx e he
    · exact hk
  · rw [l1_append, Nat.succ_mul]
    have := h.l
    have e : l1 [(k, c)] = c.natAbs := by rw [l1_cons]; rfl
    omega
  · rcases hmem he with he | rfl
    · have := h.lt e he
      omega
    · show k.getD i 0 < _
      omega
def S_L_great (P : Program) (w : World) (K : PySem.W.Frag) : Spc := fun rs k => rs = [rHand P w] ∧ ∀ A B : PT, GrOk A → GrOk B → k (rLst [rDI P w K A, rDI P w K B])
theorem ok_L_great {P : Program} {w : World} {K : PySem.W.Frag} {mg : Str → Option Value} {base : Heap} {f : Addr} {fd fd_L_draw fd_L_any fd_L_plus : FuncData} (T : Txt K mg) (F : FunD K "_law_great" "_law_great" (defArgs s_L_great) (defBody s_L_great) (defScope s_L_great) [] [] f fd) (c_L_draw : Callee P w K mg base (He.ga K "_law_draw") fd_L_draw ["_law_hand_here", "_law_many"] 1 (spOf (S_L_draw P w K))) (c_L_any : Callee P w K mg base (He.ga K "_law_any") fd_L_any ["_law_hand_here", "_law_things"] 2 (spOf (S_L_any P w K))) (c_L_plus : Callee P w K mg base (He.ga K "_law_plus") fd_L_plus ["_law_one", "_law_other", "_law_by"] 1 (spOf (S_L_plus P w K)))  :
    FnOk P w K mg base CX0 3 f fd ["_law_hand_here"] (spOf (S_L_great P w K)) := by
  refine F.ok sc_L_great (len_of (by intro rs k h; first | (obtain ⟨e, _⟩ := h; subst e; exact rfl) | (obtain ⟨_, e, _⟩ := h; subst e; exact rfl) | (obtain ⟨_, _, e, _⟩ := h; subst e; exact rfl) | (obtain ⟨_, _, _, e, _⟩ := h; subst e; exact rfl) | (obtain ⟨_, _, _, _, e, _⟩ := h; subst e; exact rfl) | (obtain ⟨_, _, _, _, _, e, _⟩ := h; subst e; exact rfl) | (obtain ⟨_, _, _, _, _, _, e, _⟩ := h; subst e; exact rfl) | (obtain ⟨_, _, _, _, _, _, _, e, _⟩ := h; subst e; exact rfl) | (obtain ⟨_, _, _, _, _, _, _, _, e, _⟩ := h; subst e; exact rfl) | (obtain ⟨_, _, _, _, _, _, _, _, _, e, _⟩ := h; subst e; exact rfl) | (obtain ⟨_, _, _, _, _, _, _, _, _, _, e, _⟩ := h; subst e; exact rfl) | (obtain ⟨_, _, _, _, _, _, _, _, _, _, _, e, _⟩ := h; subst e; exact rfl) | (obtain ⟨_, _, _, _, _, _, _, _, _, _, _, _, e, _⟩ := h; subst e; exact rfl))) (fun cdv A outer s H vs Q E hr h => ?_)
  
  refine ⟨_, PSs.nox (pss_cons (ps_if (pt_cmpR op_eq (pe_call (c_L_draw.F.mono (by decide)) hr rfl T.g_L_draw c_L_draw.kp c_L_draw.b .nil pass0 (pa_cons (pv 0) (pa_cons pe_int pa_nil))) pe_int (nomark _)) (pss_cons (ps_set (i := 4) sc_L_great.nd rfl (by first | exact Or.inl rfl | exact Or.inr rfl) (pe_lst pa_nil)) (pss_cons (ps_for PassesOwn.never rfl (pi_range1 rfl T.b_range (pa_cons pe_int pa_nil)) (pg_name (i := 5) sc_L_great.nd rfl (by first | exact Or.inl rfl | exact Or.inr rfl)) (pss_cons (ps_set (i := 6) sc_L_great.nd rfl (by first | exact Or.inl rfl | exact Or.inr rfl) (pe_frz (q_new (P := P) (w := w) rfl rfl))) (pss_cons (ps_for PassesOwn.never rfl (pi_range1 rfl T.b_range (pa_cons (pe_op op_add pe_int (pe_call (c_L_draw.F.mono (by decide)) hr rfl T.g_L_draw c_L_draw.kp c_L_draw.b .nil pass0 (pa_cons (pv 0) (pa_cons pe_int pa_nil)))) pa_nil)) (pg_name (i := 7) sc_L_great.nd rfl (by first | exact Or.inl rfl | exact Or.inr rfl)) (pss_cons (ps_set (i := 8) sc_L_great.nd rfl (by first | exact Or.inl rfl | exact Or.inr rfl) (pe_callTy (k_tupleOf (K := K) rfl) rfl T.b_tuple boot_tuple (pa_cons (pe_frz (pe_lc (own := [("_law_k", 3)]) (g := gName 3) (tt := tYes) rfl sc_L_great.nd (pi_range1 rfl T.b_range (pa_cons pe_int pa_nil)) (blkOk_by (own := [("_law_k", 3)]) (N := ["_law_hand_here", "_law_first", "_law_second", "_law_k", "_law_found", "_law_turn", "_law_some_here", "_law_step", "_law_powers"]) (sc := defScope s_L_great) (by decide +kernel)) (fun _ _ _ _ _ => (pg_name (i := 3) sc_L_great.nd rfl (by first | exact Or.inl rfl | exact Or.inr rfl))) (fun _ _ _ _ _ => pts_nil) (fun _ _ _ _ _ => (pe_ifExp (pt_cmpR op_lt (pv 3) pe_int (nomark _)) (pe_call (c_L_any.F.mono (by decide)) hr rfl T.g_L_any c_L_any.kp c_L_any.b .nil pass0 (pa_cons (pv 0) (pa_cons (pe_frz (pe_lst (pa_cons pe_int (pa_cons pe_int (pa_cons pe_int (pa_cons pe_int (pa_cons pe_int pa_nil))))))) pa_nil))) pe_int)))) pa_nil))) (pss_cons (ps_set (i := 6) sc_L_great.nd rfl (by first | exact Or.inl rfl | exact Or.inr rfl) (pe_call (c_L_plus.F.mono (by decide)) hr rfl T.g_L_plus c_L_plus.kp c_L_plus.b .nil pass0 (pa_cons (pv 6) (pa_cons (pe_frz (q_disp (P := P) (w := w) (K := K) rfl rfl rfl hr.units (pps_cons (pv 8) pe_int pps_nil) (by rfl) (by rfl) (fun z => by cases z) (by decide))) (pa_cons (pe_call (c_L_any.F.mono (by decide)) hr rfl T.g_L_any c_L_any.kp c_L_any.b .nil pass0 (pa_cons (pv 0) (pa_cons (pe_frz (pe_lst (pa_cons pe_int (pa_cons (pe_un un_neg pe_int) (pa_cons pe_int pa_nil))))) pa_nil))) pa_nil))))) pss_nil))) (pss_cons (ps_expr (q_append (K := K) rfl (pv 4) (pa_cons (pe_call (c_L_plus.F.mono (by decide)) hr rfl T.g_L_plus c_L_plus.kp c_L_plus.b .nil pass0 (pa_cons (pv 6) (pa_cons (pe_frz (q_disp (P := P) (w := w) (K := K) rfl rfl rfl hr.units (pps_cons (pe_tup (pa_cons pe_int (pa_cons pe_int (pa_cons pe_int (pa_cons pe_int pa_nil))))) pe_int pps_nil) (by rfl) (by rfl) (fun z => by cases z) (by decide))) (pa_cons pe_int pa_nil)))) pa_nil))) pss_nil)))) (pss_frz 4 (pss_cons (ps_ret (pv 4)) pss_nil)))) pss_nil) (pss_cons (ps_par (i := 1) (j := 2) (by rfl) sc_L_great.nd rfl rfl (by decide) rfl rfl (pa_cons (q_new (P := P) (w := w) rfl rfl) (pa_cons (q_new (P := P) (w := w) rfl rfl) pa_nil)) (by rfl)) (pss_cons (ps_for PassesOwn.never rfl (pi_range1 rfl T.b_range (pa_cons pe_int pa_nil)) (pg_name (i := 3) sc_L_great.nd rfl (by first | exact Or.inl rfl | exact Or.inr rfl)) (pss_cons (q_put (P := P) (w := w) (K := K) rfl rfl rfl (hu_of hr) (pv 1) (pe_tup (pa_cons (pv 3) (pa_cons pe_int (pa_cons pe_int (pa_cons pe_int pa_nil))))) (pe_op op_add pe_int (pe_call (c_L_draw.F.mono (by decide)) hr rfl T.g_L_draw c_L_draw.kp c_L_draw.b .nil pass0 (pa_cons (pv 0) (pa_cons pe_int pa_nil)))) rfl) (pss_cons (q_put (P := P) (w := w) (K := K) rfl rfl rfl (hu_of hr) (pv 2) (pe_tup (pa_cons pe_int (pa_cons (pv 3) (pa_cons (pe_call (c_L_draw.F.mono (by decide)) hr rfl T.g_L_draw c_L_draw.kp c_L_draw.b .nil pass0 (pa_cons (pv 0) (pa_cons pe_int pa_nil))) (pa_cons pe_int pa_nil))))) (pe_call (c_L_any.F.mono (by decide)) hr rfl T.g_L_any c_L_any.kp c_L_any.b .nil pass0 (pa_cons (pv 0) (pa_cons (pe_frz (pe_lst (pa_cons pe_int (pa_cons (pe_un un_neg pe_int) (pa_cons pe_int pa_nil))))) pa_nil))) rfl) pss_nil))) (pss_frz 2 (pss_frz 1 (pss_cons (ps_ret (pe_frz (pe_lst (pa_cons (pv 1) (pa_cons (pv 2) pa_nil))))) pss_nil)))))), ?_⟩
  refine read_of P w K h rfl fun rs k D hs hD hN => ?_
  obtain ⟨rfl, hk⟩ := hs
  (refine ws_if ?_; refine wt_test ?_; refine we_op ?_; refine we_call ?_; refine wa_cons ?_; refine we_var rfl ?_; refine wa_cons ?_; refine we_c ?_; refine wa_nil ?_)
  refine ⟨2, rfl, by decide, by decide, fun d d0 d1 => ?_⟩
  (refine we_c ?_; refine ot_eq rfl ?_; refine ⟨_, rfl, ?_⟩)
  refine ⟨fun _ => ?_, fun _ => ?_⟩
  · (refine ws_asgL ?_; refine wl_lst ?_; refine wa_nil ?_; refine ⟨Nat.le_of_ble_eq_true rfl, ?_⟩)
    refine ws_forQ (fun j (s : List PT) => s.length = j ∧ ∀ m, m ∈ s → GrOk m) ([] : List PT) (fun s => [.im (rHand P w), .no, .no, .no, .ml (s.map (rDI P w K)), .no, .no, .no, .no]) ?_
    (refine wi_rng1 ?_; refine wa_cons ?_; refine we_c ?_; refine wa_nil ?_; refine ⟨_, rfl, ?_⟩)
    refine ⟨by decide, by decide, by (repeat' (first | exact Weak.nil | apply Weak.eq | apply Weak.no)), ⟨rfl, fun p hp => nomatch hp⟩, fun j hj s hI G st => ?_, fun s hI => ?_⟩
    · refine ⟨_, _, wg_name, ?_⟩
      ((first | refine ws_asg ?_ | refine ws_asgG ?_); (refine we_frzX ?_; refine wx_new ?_))
      refine ws_forQ (fun i m => LB gb (i * 3) m ∧ m.length ≤ i) ([] : PT) (fun m => [.im (rHand P w), .no, .no, .no, .ml (s.map (rDI P w K)), .no, .im (rDI P w K m), .no, .no]) ?_
      (refine wi_rng1 ?_; refine wa_cons ?_; refine we_op ?_; refine we_c ?_; refine we_call ?_; refine wa_cons ?_; refine we_var rfl ?_; refine wa_cons ?_; refine we_c ?_; refine wa_nil ?_)
      refine ⟨3, rfl, by decide, by decide, fun d d0 d1 => ?_⟩
      (refine ot_I0 ?_; refine wa_nil ?_; refine ⟨_, rfl, ?_⟩)
      refine ⟨by omega, by omega, by (repeat' (first | exact Weak.nil | apply Weak.eq | apply Weak.no)), ⟨LB.nil _ _, Nat.zero_le _⟩, fun i hi m ⟨hI1, hI2⟩ G st => ?_, fun m ⟨hI1, hI2⟩ => ?_⟩
      · have hi3 : i < 3 := by omega
        refine ⟨_, _, wg_name, ?_⟩
        ((first | (refine ws_asgX ?_; refine wx_xpairs ?_) | refine ws_asg ?_); (first | refine we_cb ?_ | refine we_xlen ?_); refine wa_cons ?_; refine we_frzL ?_)
        refine wl_lcN (List.range 4) (g := fun j => rInt (j : Int)) (h := rInt) (fun j y => 0 ≤ y ∧ y ≤ (gb.at j : Int)) ?_
        (refine wi_rng1 ?_; refine wa_cons ?_; refine we_c ?_; refine wa_nil ?_; refine ⟨_, rfl, ?_⟩)
        refine ⟨by decide, by decide, rfl, fun j hj => by rw [List.getElem_range], by decide, fun j hj G' st' => ?_, fun ys hp => ?_⟩
        · refine ⟨_, _, ?_, wg_name, ?_⟩
          · intro j hj; exact hj
          · have hj4 : j < 4 := List.mem_range.mp hj
            (refine we_if ?_; refine wt_test ?_; refine we_op ?_; refine we_var rfl ?_; refine we_c ?_; refine ot_I0 ?_; refine ⟨_, rfl, ?_⟩)
            refine ⟨fun z => ?_, fun z => ?_⟩
            · have hj3 : j < 3 := by have := of_decide_eq_true z; omega
              have eg : gb.at j = 60 := by
                match j, hj3 with
                | 0, _ => rfl
                | 1, _ => rfl
                | 2, _ => rfl
              rw [eg]
              (refine we_call ?_; refine wa_cons ?_; refine we_var rfl ?_; refine wa_cons ?_; (refine we_frzL ?_; refine wl_lst ?_); refine wa_cons ?_; refine we_c ?_; refine wa_cons ?_; refine we_c ?_; refine wa_cons ?_; refine we_c ?_; refine wa_cons ?_; refine we_c ?_; refine wa_cons ?_; refine we_c ?_; refine wa_nil ?_; refine ⟨Nat.le_of_ble_eq_true rfl, ?_⟩; refine wa_nil ?_)
              refine ⟨_, rfl, by decide, by decide, fun r hr => ?_⟩
              simp only [List.mem_cons, List.not_mem_nil, or_false] at hr
              rcases hr with rfl | rfl | rfl | rfl | rfl
              · exact ⟨0, rfl, by decide, by decide⟩
              · exact ⟨1, rfl, by decide, by decide⟩
              · exact ⟨31, rfl, by decide, by decide⟩
              · exact ⟨59, rfl, by decide, by decide⟩
              · exact ⟨60, rfl, by decide, by decide⟩
            · (refine we_c ?_; refine ⟨_, rfl, ?_⟩)
              exact ⟨Int.le_refl 0, Int.natCast_nonneg _⟩
        · have hin := in_gb hp
          (refine wa_nil ?_; refine ct_tuple ?_; (first | refine ws_asg ?_ | refine ws_asgG ?_); refine we_call ?_; refine wa_cons ?_; refine we_var rfl ?_; refine wa_cons ?_; (refine we_frzX ?_; refine wx_xdisp ?_); (first | refine wp_cons ?_ | refine wp_nil ?_); refine we_var rfl ?_; refine ⟨_, rfl, ?_⟩; refine we_c ?_; (first | refine wp_cons ?_ | refine wp_nil ?_); refine ⟨Nat.le_of_ble_eq_true rfl, ?_⟩; refine wa_cons ?_; refine we_call ?_; refine wa_cons ?_; refine we_var rfl ?_; refine wa_cons ?_; (refine we_frzL ?_; refine wl_lst ?_); refine wa_cons ?_; refine we_c ?_; refine wa_cons ?_; refine we_un ?_; refine we_c ?_; refine ut_I ?_; refine wa_cons ?_; refine we_c ?_; refine wa_nil ?_; refine ⟨Nat.le_of_ble_eq_true rfl, ?_⟩; refine wa_nil ?_)
          refine ⟨_, rfl, by decide, by decide, fun r hr => ?_⟩
          obtain ⟨c, rfl, hc⟩ : ∃ c : Int, r = rInt c ∧ c.natAbs ≤ 3 := by
            simp only [List.mem_cons, List.not_mem_nil, or_false] at hr
            rcases hr with rfl | rfl | rfl
            · exact ⟨1, rfl, by decide⟩
            · exact ⟨-2, rfl, by decide⟩
            · exact ⟨3, rfl, by decide⟩
          have h1 := lb_one (c := 1) hin (by decide)
          have hS := hI1.sumS h1 c
          have hL := sum_len m [(ys, 1)] c
          (refine wa_nil ?_)
          refine lplus_len hI1 h1 (by show m.length + 1 ≤ _; omega) (small_lt (by decide)) (by omega) ?_
          skip
          refine ws_nextI rfl _ ⟨hS.mono (B4.le.refl _) (by rw [Nat.succ_mul, show (1 : Int).natAbs = 1 from rfl, Nat.mul_one]; omega), ?_⟩ (by (repeat' (first | exact Weak.nil | apply Weak.eq | apply Weak.no)))
          have : m.length + [(ys, (1 : Int))].length = m.length + 1 := rfl
          omega
      · have h1 : LB gb 1 [([60, 0, 0, 0], 1)] := lb_one (c := 1) ⟨60, 0, 0, 0, rfl, by decide, by decide, by decide, by decide⟩ (by decide)
        have hS := hI1.sumS h1 1
        have hL := sum_len m [([60, 0, 0, 0], 1)] 1
        ((first | refine ws_app rfl ?_ | refine ws_drop ?_); refine we_call ?_; refine wa_cons ?_; refine we_var rfl ?_; refine wa_cons ?_; (refine we_frzX ?_; refine wx_xdisp ?_); (first | refine wp_cons ?_ | refine wp_nil ?_); refine we_tup ?_; refine wa_cons ?_; refine we_c ?_; refine wa_cons ?_; refine we_c ?_; refine wa_cons ?_; refine we_c ?_; refine wa_cons ?_; refine we_c ?_; refine wa_nil ?_; refine ⟨Nat.le_of_ble_eq_true rfl, ?_⟩)
        refine ⟨[60, 0, 0, 0], rfl, ?_⟩
        (refine we_c ?_; (first | refine wp_cons ?_ | refine wp_nil ?_); refine ⟨Nat.le_of_ble_eq_true rfl, ?_⟩; refine wa_cons ?_; refine we_c ?_; refine wa_nil ?_)
        refine lplus_len (s := 1) hI1 h1 (by show m.length + 1 ≤ _; omega) (small_lt (by decide)) (by decide) ?_
        skip
        refine ⟨by rw [List.length_map, hI.1, sizeLine_eq]; have hj4 : j < 2 := hj; omega, ?_⟩
        skip
        have em : s.map (rDI P w K) ++ [rDI P w K (nz (sumP m [([60, 0, 0, 0], 1)] 1))] = (s ++ [nz (sumP m [([60, 0, 0, 0], 1)] 1)]).map (rDI P w K) := by rw [List.map_append]; rfl
        rw [em]
        refine ws_nextI rfl (s ++ [nz (sumP m [([60, 0, 0, 0], 1)] 1)]) ⟨by rw [List.length_append, hI.1]; rfl, fun p hp => ?_⟩ (by (repeat' (first | exact Weak.nil | apply Weak.eq | apply Weak.no)))
        rcases List.mem_append.mp hp with hp | hp
        · exact hI.2 p hp
        · rw [List.mem_singleton] at hp
          subst hp
          have : m.length + [(([60, 0, 0, 0] : List Int), (1 : Int))].length = m.length + 1 := rfl
          exact ⟨hS.mono (B4.le.refl _) (by rw [show (1 : Int).natAbs = 1 from rfl]; omega), by omega⟩
    · obtain ⟨hl, hs⟩ := hI
      ((first | refine ws_frzX rfl ?_ | refine ws_frzL rfl ?_); refine ws_retS (by assumption) ?_; refine we_var rfl ?_)
      match s, hl, hs with
      | [m1, m2], _, hs => exact hk m1 m2 (hs m1 (List.mem_cons_self ..)) (hs m2 (List.mem_cons_of_mem _ (List.mem_cons_self ..)))
  · refine ws_thru ?_
    refine ws_parXX ?_
    (refine wx_new ?_; refine wx_new ?_)
    refine ws_forP (List.range 19) (g := fun j => rInt (j : Int)) (fun j (s : PT × PT) => GcI 0 j s.1 ∧ GcI 1 j s.2) (([], []) : PT × PT) (fun s => [.im (rHand P w), .mx (mI s.1), .mx (mI s.2), .no, .no, .no, .no, .no, .no]) ?_
    (refine wi_rng1 ?_; refine wa_cons ?_; refine we_c ?_; refine wa_nil ?_; refine ⟨_, rfl, ?_⟩)
    refine ⟨by decide, by decide, rfl, fun j hj => by rw [List.getElem_range], by (repeat' (first | exact Weak.nil | apply Weak.eq | apply Weak.no)), ⟨GcI.nil 0, GcI.nil 1⟩, fun j hj s hI G st => ?_, fun s hI => ?_⟩
    · obtain ⟨A', B'⟩ := s
      obtain ⟨hA, hB⟩ := hI
      have hA : GcI 0 j A' := hA
      have hB : GcI 1 j B' := hB
      rw [List.getElem_range]
      have hj : j < 19 := by rw [List.length_range] at hj; exact hj
      refine ⟨_, _, wg_name, ?_⟩
      (refine ws_xput rfl ?_; refine we_op ?_; refine we_c ?_; refine we_call ?_; refine wa_cons ?_; refine we_var rfl ?_; refine wa_cons ?_; refine we_c ?_; refine wa_nil ?_)
      refine ⟨4, rfl, by decide, by decide, fun c c0 c1 => ?_⟩
      (refine ot_I0 ?_; refine we_tup ?_; refine wa_cons ?_; refine we_var rfl ?_; refine wa_cons ?_; refine we_c ?_; refine wa_cons ?_; refine we_c ?_; refine wa_cons ?_; refine we_c ?_; refine wa_nil ?_; refine ⟨Nat.le_of_ble_eq_true rfl, ?_⟩)
      have zl : ∀ {i : Nat} {m : PT}, GcI i j m → (mI m).length < sizeLine := fun {i m} h => by rw [List.length_map, h.len, sizeLine_eq]; omega
      refine ⟨[(j : Int), 0, 0, 0], rfl, zl hA, ?_⟩
      (refine ws_xput rfl ?_; refine we_call ?_; refine wa_cons ?_; refine we_var rfl ?_; refine wa_cons ?_; (refine we_frzL ?_; refine wl_lst ?_); refine wa_cons ?_; refine we_c ?_; refine wa_cons ?_; refine we_un ?_; refine we_c ?_; refine ut_I ?_; refine wa_cons ?_; refine we_c ?_; refine wa_nil ?_; refine ⟨Nat.le_of_ble_eq_true rfl, ?_⟩; refine wa_nil ?_)
      refine ⟨_, rfl, by decide, by decide, fun r hr => ?_⟩
      obtain ⟨c', rfl, hc0, hc4⟩ : ∃ c : Int, r = rInt c ∧ c ≠ 0 ∧ c.natAbs ≤ 4 := by
        simp only [List.mem_cons, List.not_mem_nil, or_false] at hr
        rcases hr with rfl | rfl | rfl
        · exact ⟨1, rfl, by decide, by decide⟩
        · exact ⟨-1, rfl, by decide, by decide⟩
        · exact ⟨2, rfl, by decide, by decide⟩
      (refine we_tup ?_; refine wa_cons ?_; refine we_c ?_; refine wa_cons ?_; refine we_var rfl ?_; refine wa_cons ?_; refine we_call ?_; refine wa_cons ?_; refine we_var rfl ?_; refine wa_cons ?_; refine we_c ?_; refine wa_nil ?_)
      refine ⟨3, rfl, by decide, by decide, fun z z0 z1 => ?_⟩
      (refine wa_cons ?_; refine we_c ?_; refine wa_nil ?_; refine ⟨Nat.le_of_ble_eq_true rfl, ?_⟩)
      refine ⟨[0, (j : Int), z, 0], rfl, zl hB, ?_⟩
      skip
      have hA' : GcI 0 (j + 1) (putM A' [(j : Int), 0, 0, 0] (1 + c)) := hA.put ⟨j, 0, 0, 0, rfl, by show j ≤ 60; omega, Nat.zero_le _, Nat.zero_le _, Nat.zero_le _⟩ rfl (by omega) (by omega)
      have hB' : GcI 1 (j + 1) (putM B' [0, (j : Int), z, 0] c') := hB.put ⟨0, j, z.toNat, 0, by rw [Int.toNat_of_nonneg z0]; rfl, Nat.zero_le _, by show j ≤ 60; omega, by show z.toNat ≤ 60; omega, Nat.zero_le _⟩ rfl hc0 hc4
      refine ws_nextI rfl ((putM A' [(j : Int), 0, 0, 0] (1 + c), putM B' [0, (j : Int), z, 0] c') : PT × PT) ⟨hA', hB'⟩ ?_
      show Weak _ [.im (rHand P w), .mx (mI (putM A' [(j : Int), 0, 0, 0] (1 + c))), .mx (mI (putM B' [0, (j : Int), z, 0] c')), .no, .no, .no, .no, .no, .no]
      rw [show mI (putM A' [(j : Int), 0, 0, 0] (1 + c)) = putM (mI A') [(j : Int), 0, 0, 0] (rInt (1 + c)) from (putM_map rInt _ _ _).symm, show mI (putM B' [0, (j : Int), z, 0] c') = putM (mI B') [0, (j : Int), z, 0] (rInt c') from (putM_map rInt _ _ _).symm]
      (repeat' (first | exact Weak.nil | apply Weak.eq | apply Weak.no))
    · obtain ⟨A', B'⟩ := s
      obtain ⟨hA, hB⟩ := hI
      have hA : GcI 0 19 A' := hA
      have hB : GcI 1 19 B' := hB
      ((first | refine ws_frzX rfl ?_ | refine ws_frzL rfl ?_); (first | refine ws_frzX rfl ?_ | refine ws_frzL rfl ?_); refine ws_retS (by assumption) ?_; (refine we_frzL ?_; refine wl_lst ?_); refine wa_cons ?_; refine we_var rfl ?_; refine wa_cons ?_; refine we_var rfl ?_; refine wa_nil ?_; refine ⟨Nat.le_of_ble_eq_true rfl, ?_⟩)
      exact hk A' B' hA.ok hB.ok
end Lw
set_option Elab.async false
set_option linter.all false
set_option maxRecDepth 100000
set_option maxHeartbeats 2000000
namespace Lw
open PySem PySem.Spec PyProof.Rows L2 BX
/-- two rows of marked tables that are unlike: never -/
def rNeMK (P : Program) (w : World) (K : PySem.W.Frag) : R2 := fun x y H Q => ∃ S T S' T' : PT, eqTb S S' = true ∧ eqTb T T' = true ∧ rNeLL [rLst [rStr "P", rDI P w K S], rLst [rStr "P", rDI P w K T]] [rLst [rStr "P", rDI P w K S'], rLst [rStr "P", rDI P w K T']] x y H Q
theorem k_markN {X : Cx} {P : Program} {w : World} {K : PySem.W.Frag} (hP : X.prog = P) (hw : X.w = w) (hK : X.K = K) (hu : X.A.units + 70 < cLine) : OpR X (compareOp .NotEq) (rNeMK P w K) := by
  subst hP hw hK
  intro pins s σ H x y u v Q I rx ry ⟨S, T, S', T', h1, h2, r⟩
  exact op_neLL (n := 1) (.cons (epr_lst (.cons (epr_str _) (.cons (epr_dct h1) .nil))) (.cons (epr_lst (.cons (epr_str _) (.cons (epr_dct h2) .nil))) .nil)) (by omega) pins s σ H x y u v Q I rx ry r
theorem ot_markN {B : Bd} {k : Rel → Prop} {S T S' T' : PT} (h1 : eqTb S S' = true) (h2 : eqTb T T' = true) (q : k (rBl false)) : OpT B (rNeMK B.P B.w B.K) (rLst [rLst [rStr "P", rDI B.P B.w B.K S], rLst [rStr "P", rDI B.P B.w B.K T]]) (rLst [rLst [rStr "P", rDI B.P B.w B.K S'], rLst [rStr "P", rDI B.P B.w B.K T']]) k := fun H x y _ p1 p2 Q hQ =>
  ⟨S, T, S', T', h1, h2, p1, p2, hQ _ _ H q rfl (Same.refl H)⟩
def g2 : B4 := gb.add gb
/-- a great product -/
structure G2Ok (m : PT) : Prop where
  lb : LB g2 6400 m
  len : m.length ≤ 361
theorem GrOk.mul {A B : PT} (hA : GrOk A) (hB : GrOk B) : G2Ok (nz (mulP A B)) := ⟨(hA.lb.mul hB.lb).1, Nat.le_trans (mul_len A B) (Nat.le_trans (Nat.mul_le_mul hA.len hB.len) (by decide))⟩
theorem GrOk.two {A : PT} (hA : GrOk A) : LB g2 80 A := hA.lb.mono ⟨by decide, by decide, by decide, by decide⟩ (Nat.le_refl _)
theorem canon_nil : canon [] = [] := by
  unfold canon
  simp
theorem can_less {b : B4} {n : Nat} {A : PT} (hA : LB b n A) : canon (nz (sumP A A (-1))) = canon [] := by
  obtain ⟨q, e⟩ := hA.sum hA (s := -1) (by decide)
  have z : LB b 0 [] := LB.nil b 0
  refine can_pol q.pb.1.can q.pb.1.bx.n4 z.pb.1.can z.pb.1.bx.n4 ?_
  rw [q.pb.2, z.pb.2, e, pol_nil]
  have : Pol.con (-1) = -1 := rfl
  rw [this]
  grind
theorem can_comm {b c : B4} {n m : Nat} {A B : PT} (hA : LB b n A) (hB : LB c m B) : canon (nz (mulP B A)) = canon (nz (mulP A B)) := by
  obtain ⟨q, e⟩ := hA.mul hB
  obtain ⟨q', e'⟩ := hB.mul hA
  refine can_pol q'.pb.1.can q'.pb.1.bx.n4 q.pb.1.can q.pb.1.bx.n4 ?_
  rw [q'.pb.2, q.pb.2, e, e']
  grind
theorem GrOk.tsb {m : PT} (h : GrOk m) : TsB m := ⟨Nat.le_trans h.len (by decide), h.lb.bx.mono ⟨by decide, by decide, by decide, by decide⟩, h.lb.nd, h.lb.nz⟩
theorem k_bb (K : PySem.W.Frag) : PySem.W.kitOne K (.type "bool") (.type "bool") = some true := kit_ty (by decide +kernel)
theorem SyOk.none {K : PySem.W.Frag} {b : B4} {n : Nat} {E B : List (PoS K)} (h : SyOk K b n E B) : SyOk K b n E [] := ⟨h.u, h.e6, Nat.zero_le _, h.e, fun p h => (nomatch h), h.n0, h.n3⟩
theorem ws_one {B : Bd} {Γ : BX.Ctx} {D : Ends} {t : TS} (h : WpS B D Γ (tSeq t tNext)) : WpS B D Γ t := h
theorem ws_nextX {α : Type} {B : Bd} {Γ : BX.Ctx} {D : Ends} {Γs : α → BX.Ctx} (e : D.nx = fun σ H => ∃ a, BX.Env B (Γs a) σ H) (a : α) (h : Weak Γ (Γs a)) : WpS B D Γ tNext := fun σ H E => by
  show D.nx σ H
  rw [e]
  exact ⟨a, E.wk h⟩
theorem half_Q {K : PySem.W.Frag} : rQ K (1 / 2) = rKey K [1, 2] := by
  show rKey K [(1 / 2 : Rat).num, (((1 / 2 : Rat).den : Nat) : Int)] = _
  rw [show (1 / 2 : Rat).num = 1 by decide +kernel, show (1 / 2 : Rat).den = 2 by decide +kernel]
  rfl
theorem pr_all {α β : Type} {R : α → β → Prop} {T : β → Prop} (h : ∀ a b, R a b → T b) : ∀ {xs : List α} {ys : List β}, Paired R xs ys → ∀ y, y ∈ ys → T y
  | _, _, .nil, _, hy => (nomatch hy)
  | _, _, .cons p t, y, hy => by
    rcases List.mem_cons.mp hy with rfl | hy
    · exact h _ _ p
    · exact pr_all h t y hy
theorem g2_u : InU g2 3 := fun j hj h => by
  have : j = 3 := by omega
  subst this
  rfl
def S_L_are_great_right (P : Program) (w : World) (K : PySem.W.Frag) : Spc := fun rs k => rs = [rHand P w] ∧ k (rBl true)
theorem ok_L_are_great_right {P : Program} {w : World} {K : PySem.W.Frag} {mg : Str → Option Value} {base : Heap} {f : Addr} {fd fd_is_root fd_System_init fd_L_worth fd_L_mark fd_L_unpacked fd_L_draw fd_worth fd_L_any fd_L_is_poly fd_exchanged fd_L_exchanged fd_slope fd_L_slope fd_lead fd_L_lead fd_times fd_degree fd_L_degree fd_top fd_L_top fd_L_times fd_minus fd_plus fd_L_plus fd_L_packed fd_L_great : FuncData} (T : Txt K mg) (F : FunD K "_law_are_great_right" "_law_are_great_right" (defArgs s_L_are_great_right) (defBody s_L_are_great_right) (defScope s_L_are_great_right) [] [] f fd) (c_is_root : Callee P w K mg base (He.ga K "is_root") fd_is_root ["system", "thing"] 45 (spOf (S_is_root P w K))) (c_System_init : Callee P w K mg base (He.ma K (He.ga K "System") "__init__") fd_System_init ["self", "many", "equations", "barred"] 4 (spMk (He.ga K "System") (S_System_init P w K))) (c_L_worth : Callee P w K mg base (He.ga K "_law_worth") fd_L_worth ["_law_poly", "_law_point"] 41 (spOf (S_L_worth P w K))) (c_L_mark : Callee P w K mg base (He.ga K "_law_mark") fd_L_mark ["_law_parts"] 1 (spOf (S_L_mark P w K))) (c_L_unpacked : Callee P w K mg base (He.ga K "_law_unpacked") fd_L_unpacked ["_law_thing"] 2 (spOf (S_L_unpacked P w K))) (c_L_draw : Callee P w K mg base (He.ga K "_law_draw") fd_L_draw ["_law_hand_here", "_law_many"] 1 (spOf (S_L_draw P w K))) (c_worth : Callee P w K mg base (He.ga K "worth") fd_worth ["poly", "point"] 44 (spOf (S_worth P w K))) (c_L_any : Callee P w K mg base (He.ga K "_law_any") fd_L_any ["_law_hand_here", "_law_things"] 2 (spOf (S_L_any P w K))) (c_L_is_poly : Callee P w K mg base (He.ga K "_law_is_poly") fd_L_is_poly ["_law_told", "_law_due"] 1 (spOf (S_L_is_poly P w K))) (c_exchanged : Callee P w K mg base (He.ga K "exchanged") fd_exchanged ["poly", "k", "l"] 4 (spOf (S_exchanged P w K))) (c_L_exchanged : Callee P w K mg base (He.ga K "_law_exchanged") fd_L_exchanged ["_law_poly", "_law_k", "_law_l"] 1 (spOf (S_L_exchanged P w K))) (c_slope : Callee P w K mg base (He.ga K "slope") fd_slope ["poly", "k"] 5 (spOf (S_slope P w K))) (c_L_slope : Callee P w K mg base (He.ga K "_law_slope") fd_L_slope ["_law_poly", "_law_k"] 1 (spOf (S_L_slope P w K))) (c_lead : Callee P w K mg base (He.ga K "lead") fd_lead ["poly", "k"] 6 (spOf (S_lead P w K))) (c_L_lead : Callee P w K mg base (He.ga K "_law_lead") fd_L_lead ["_law_poly", "_law_k"] 2 (spOf (S_L_lead P w K))) (c_times : Callee P w K mg base (He.ga K "times") fd_times ["one", "other"] 4 (spOf (S_times P w K))) (c_degree : Callee P w K mg base (He.ga K "degree") fd_degree ["poly", "k"] 4 (spOf (S_degree P w K))) (c_L_degree : Callee P w K mg base (He.ga K "_law_degree") fd_L_degree ["_law_poly", "_law_k"] 1 (spOf (S_L_degree P w K))) (c_top : Callee P w K mg base (He.ga K "top") fd_top ["poly"] 1 (spOf (S_top P w K))) (c_L_top : Callee P w K mg base (He.ga K "_law_top") fd_L_top ["_law_poly"] 2 (spOf (S_L_top P w K))) (c_L_times : Callee P w K mg base (He.ga K "_law_times") fd_L_times ["_law_one", "_law_other"] 1 (spOf (S_L_times P w K))) (c_minus : Callee P w K mg base (He.ga K "minus") fd_minus ["one", "other"] 5 (spOf (S_minus P w K))) (c_plus : Callee P w K mg base (He.ga K "plus") fd_plus ["one", "other"] 5 (spOf (S_plus P w K))) (c_L_plus : Callee P w K mg base (He.ga K "_law_plus") fd_L_plus ["_law_one", "_law_other", "_law_by"] 1 (spOf (S_L_plus P w K))) (c_L_packed : Callee P w K mg base (He.ga K "_law_packed") fd_L_packed ["_law_thing"] 6 (spOf (S_L_packed P w K))) (c_L_great : Callee P w K mg base (He.ga K "_law_great") fd_L_great ["_law_hand_here"] 3 (spOf (S_L_great P w K))) {fd_eq : FuncData} (c_eq : Callee P w K mg base (He.ma K (CP K) "__eq__") fd_eq ["self", "other"] 1 (spOf (S_Poly_eq2 P w K))) (pP : PolyC K (CP K)) (pR : PolyC K (CR K)) (nft : PySem.W.notFirst K (CP K) (.type "tuple") = true) (kt : PySem.W.kitOne K (.type "tuple") (.ref (CP K)) = some false) (cs : Cls K (He.ga K "System")) (nm : NoAttr K (He.ga K "System") "many") (ne : NoAttr K (He.ga K "System") "equations") (nb : NoAttr K (He.ga K "System") "barred") :
    FnOk P w K mg base CX0 46 f fd ["_law_hand_here"] (spOf (S_L_are_great_right P w K)) := by
  refine F.ok sc_L_are_great_right (len_of (by intro rs k h; first | (obtain ⟨e, _⟩ := h; subst e; exact rfl) | (obtain ⟨_, e, _⟩ := h; subst e; exact rfl) | (obtain ⟨_, _, e, _⟩ := h; subst e; exact rfl) | (obtain ⟨_, _, _, e, _⟩ := h; subst e; exact rfl) | (obtain ⟨_, _, _, _, e, _⟩ := h; subst e; exact rfl) | (obtain ⟨_, _, _, _, _, e, _⟩ := h; subst e; exact rfl) | (obtain ⟨_, _, _, _, _, _, e, _⟩ := h; subst e; exact rfl) | (obtain ⟨_, _, _, _, _, _, _, e, _⟩ := h; subst e; exact rfl) | (obtain ⟨_, _, _, _, _, _, _, _, e, _⟩ := h; subst e; exact rfl) | (obtain ⟨_, _, _, _, _, _, _, _, _, e, _⟩ := h; subst e; exact rfl) | (obtain ⟨_, _, _, _, _, _, _, _, _, _, e, _⟩ := h; subst e; exact rfl) | (obtain ⟨_, _, _, _, _, _, _, _, _, _, _, e, _⟩ := h; subst e; exact rfl) | (obtain ⟨_, _, _, _, _, _, _, _, _, _, _, _, e, _⟩ := h; subst e; exact rfl))) (fun cdv A outer s H vs Q E hr h => ?_)
  
  refine ⟨_, PSs.nox (pss_cons (ps_asg (pe_call (c_L_great.F.mono (by decide)) hr rfl T.g_L_great c_L_great.kp c_L_great.b .nil pass0 (pa_cons (pv 0) pa_nil)) (q_gtupL (K := K) rfl rfl (pgs_cons (pg_name (i := 1) sc_L_are_great_right.nd rfl (by first | exact Or.inl rfl | exact Or.inr rfl)) (pgs_cons (pg_name (i := 2) sc_L_are_great_right.nd rfl (by first | exact Or.inl rfl | exact Or.inr rfl)) pgs_nil)))) (pss_cons (ps_par (i := 3) (j := 4) (by rfl) sc_L_are_great_right.nd rfl rfl (by decide) rfl rfl (pa_cons (pe_call (c_L_packed.F.mono (by decide)) hr rfl T.g_L_packed c_L_packed.kp c_L_packed.b .nil pass0 (pa_cons (pe_call (c_L_mark.F.mono (by decide)) hr rfl T.g_L_mark c_L_mark.kp c_L_mark.b .nil pass0 (pa_cons (pv 1) pa_nil)) pa_nil)) (pa_cons (pe_call (c_L_packed.F.mono (by decide)) hr rfl T.g_L_packed c_L_packed.kp c_L_packed.b .nil pass0 (pa_cons (pe_call (c_L_mark.F.mono (by decide)) hr rfl T.g_L_mark c_L_mark.kp c_L_mark.b .nil pass0 (pa_cons (pv 2) pa_nil)) pa_nil)) pa_nil)) (by rfl)) (pss_cut (ps_par (i := 5) (j := 6) (by rfl) sc_L_are_great_right.nd rfl rfl (by decide) rfl rfl (pa_cons (pe_call (c_times.F.mono (by decide)) hr rfl T.g_times c_times.kp c_times.b .nil pass0 (pa_cons (pv 3) (pa_cons (pv 4) pa_nil))) (pa_cons (pe_call (c_L_times.F.mono (by decide)) hr rfl T.g_L_times c_L_times.kp c_L_times.b .nil pass0 (pa_cons (pv 1) (pa_cons (pv 2) pa_nil))) pa_nil)) (by rfl)) (pss_cons (ps_if (PW.pt (pw_or (pt_not (pt_val (pe_call (c_L_is_poly.F.mono (by decide)) hr rfl T.g_L_is_poly c_L_is_poly.kp c_L_is_poly.b .nil pass0 (pa_cons (pv 5) (pa_cons (pv 6) pa_nil))))) (pw_or1 (pt_not (pt_val (pe_call (c_L_is_poly.F.mono (by decide)) hr rfl T.g_L_is_poly c_L_is_poly.kp c_L_is_poly.b .nil pass0 (pa_cons (pe_call (c_plus.F.mono (by decide)) hr rfl T.g_plus c_plus.kp c_plus.b .nil pass0 (pa_cons (pv 5) (pa_cons (pv 3) pa_nil))) (pa_cons (pe_call (c_L_plus.F.mono (by decide)) hr rfl T.g_L_plus c_L_plus.kp c_L_plus.b .nil pass0 (pa_cons (pv 6) (pa_cons (pv 1) (pa_cons pe_int pa_nil)))) pa_nil)))))))) (pss_cons (ps_ret pe_bl) pss_nil) pss_nil) (pss_cons (ps_if (PW.pt (pw_or (pt_not (pt_val (pe_call (c_L_is_poly.F.mono (by decide)) hr rfl T.g_L_is_poly c_L_is_poly.kp c_L_is_poly.b .nil pass0 (pa_cons (pe_call (c_minus.F.mono (by decide)) hr rfl T.g_minus c_minus.kp c_minus.b .nil pass0 (pa_cons (pv 5) (pa_cons (pv 5) pa_nil))) (pa_cons (pe_frz (q_new (P := P) (w := w) rfl rfl)) pa_nil))))) (pw_or1 (pt_not (pt_val (pe_call (c_L_is_poly.F.mono (by decide)) hr rfl T.g_L_is_poly c_L_is_poly.kp c_L_is_poly.b .nil pass0 (pa_cons (pe_call (c_times.F.mono (by decide)) hr rfl T.g_times c_times.kp c_times.b .nil pass0 (pa_cons (pv 5) (pa_cons (pv 4) pa_nil))) (pa_cons (pe_call (c_L_times.F.mono (by decide)) hr rfl T.g_L_times c_L_times.kp c_L_times.b .nil pass0 (pa_cons (pv 6) (pa_cons (pv 2) pa_nil))) pa_nil)))))))) (pss_cons (ps_ret pe_bl) pss_nil) pss_nil) (pss_cut (ps_par (i := 7) (j := 8) (by rfl) sc_L_are_great_right.nd rfl rfl (by decide) rfl rfl (pa_cons (pe_call (c_L_draw.F.mono (by decide)) hr rfl T.g_L_draw c_L_draw.kp c_L_draw.b .nil pass0 (pa_cons (pv 0) (pa_cons pe_int pa_nil))) (pa_cons (pe_call (c_L_draw.F.mono (by decide)) hr rfl T.g_L_draw c_L_draw.kp c_L_draw.b .nil pass0 (pa_cons (pv 0) (pa_cons pe_int pa_nil))) pa_nil)) (by rfl)) (pss_cons (ps_if (PW.pt (pw_or (pt_cmpR op_ne (pe_call (c_top.F.mono (by decide)) hr rfl T.g_top c_top.kp c_top.b .nil pass0 (pa_cons (pv 5) pa_nil)) (pe_call (c_L_top.F.mono (by decide)) hr rfl T.g_L_top c_L_top.kp c_L_top.b .nil pass0 (pa_cons (pv 6) pa_nil)) (nomark _)) (pw_or (pt_cmpR op_ne (pe_call (c_degree.F.mono (by decide)) hr rfl T.g_degree c_degree.kp c_degree.b .nil pass0 (pa_cons (pv 5) (pa_cons (pv 7) pa_nil))) (pe_call (c_L_degree.F.mono (by decide)) hr rfl T.g_L_degree c_L_degree.kp c_L_degree.b .nil pass0 (pa_cons (pv 6) (pa_cons (pv 7) pa_nil))) (nomark _)) (pw_or1 (pt_not (pt_cmpR (k_ownB (K := K) (n := 1) rfl rfl rfl rfl rfl c_eq pR.eq pR.isf pass0 (hr.mono (by decide))) (pv 5) (pe_call (c_times.F.mono (by decide)) hr rfl T.g_times c_times.kp c_times.b .nil pass0 (pa_cons (pv 4) (pa_cons (pv 3) pa_nil))) (nomark _))))))) (pss_cons (ps_ret pe_bl) pss_nil) pss_nil) (pss_cons (ps_if (PW.pt (pw_or (pt_not (pt_val (pe_call (c_L_is_poly.F.mono (by decide)) hr rfl T.g_L_is_poly c_L_is_poly.kp c_L_is_poly.b .nil pass0 (pa_cons (pe_call (c_lead.F.mono (by decide)) hr rfl T.g_lead c_lead.kp c_lead.b .nil pass0 (pa_cons (pv 5) (pa_cons (pv 7) pa_nil))) (pa_cons (pe_call (c_L_lead.F.mono (by decide)) hr rfl T.g_L_lead c_L_lead.kp c_L_lead.b .nil pass0 (pa_cons (pv 6) (pa_cons (pv 7) pa_nil))) pa_nil))))) (pw_or1 (pt_not (pt_val (pe_call (c_L_is_poly.F.mono (by decide)) hr rfl T.g_L_is_poly c_L_is_poly.kp c_L_is_poly.b .nil pass0 (pa_cons (pe_call (c_slope.F.mono (by decide)) hr rfl T.g_slope c_slope.kp c_slope.b .nil pass0 (pa_cons (pv 5) (pa_cons (pv 7) pa_nil))) (pa_cons (pe_call (c_L_slope.F.mono (by decide)) hr rfl T.g_L_slope c_L_slope.kp c_L_slope.b .nil pass0 (pa_cons (pv 6) (pa_cons (pv 7) pa_nil))) pa_nil)))))))) (pss_cons (ps_ret pe_bl) pss_nil) pss_nil) (pss_cons (ps_if (pt_not (pt_val (pe_call (c_L_is_poly.F.mono (by decide)) hr rfl T.g_L_is_poly c_L_is_poly.kp c_L_is_poly.b .nil pass0 (pa_cons (pe_call (c_exchanged.F.mono (by decide)) hr rfl T.g_exchanged c_exchanged.kp c_exchanged.b .nil pass0 (pa_cons (pv 5) (pa_cons (pv 7) (pa_cons (pv 8) pa_nil)))) (pa_cons (pe_call (c_L_exchanged.F.mono (by decide)) hr rfl T.g_L_exchanged c_L_exchanged.kp c_L_exchanged.b .nil pass0 (pa_cons (pv 6) (pa_cons (pv 7) (pa_cons (pv 8) pa_nil)))) pa_nil))))) (pss_cons (ps_ret pe_bl) pss_nil) pss_nil) (pss_cut (ps_set (i := 9) sc_L_are_great_right.nd rfl (by first | exact Or.inl rfl | exact Or.inr rfl) (pe_callTy (k_tupleOf (K := K) rfl) rfl T.b_tuple boot_tuple (pa_cons (pe_frz (pe_lc (own := [("_law_turn", 16)]) (g := gName 16) (tt := tYes) rfl sc_L_are_great_right.nd (pi_range1 rfl T.b_range (pa_cons pe_int pa_nil)) (blkOk_by (own := [("_law_turn", 16)]) (N := ["_law_hand_here", "_law_one", "_law_other", "_law_first", "_law_second", "_law_great_here", "_law_due", "_law_k", "_law_l", "_law_point", "_law_worth_due", "_law_system", "_law_rows", "_law_zero", "_law_flag", "_law_part", "_law_turn"]) (sc := defScope s_L_are_great_right) (by decide +kernel)) (fun _ _ _ _ _ => (pg_name (i := 16) sc_L_are_great_right.nd rfl (by first | exact Or.inl rfl | exact Or.inr rfl))) (fun _ _ _ _ _ => pts_nil) (fun _ _ _ _ _ => (pe_call (c_L_any.F.mono (by decide)) hr rfl T.g_L_any c_L_any.kp c_L_any.b .nil pass0 (pa_cons (pv 0) (pa_cons (pe_frz (pe_lst (pa_cons (pe_tup (pa_cons pe_int (pa_cons pe_int pa_nil))) (pa_cons (pe_tup (pa_cons pe_int (pa_cons pe_int pa_nil))) (pa_cons (pe_tup (pa_cons (pe_un un_neg pe_int) (pa_cons pe_int pa_nil))) (pa_cons (pe_tup (pa_cons pe_int (pa_cons pe_int pa_nil))) (pa_cons (pe_tup (pa_cons (pe_un un_neg pe_int) (pa_cons pe_int pa_nil))) pa_nil))))))) pa_nil)))))) pa_nil))) (pss_cons (ps_set (i := 10) sc_L_are_great_right.nd rfl (by first | exact Or.inl rfl | exact Or.inr rfl) (pe_call (c_L_worth.F.mono (by decide)) hr rfl T.g_L_worth c_L_worth.kp c_L_worth.b .nil pass0 (pa_cons (pv 6) (pa_cons (pv 9) pa_nil)))) (pss_cons (ps_if (pt_cmpR (k_neD (K := K) rfl hr.units) (pe_call (c_worth.F.mono (by decide)) hr rfl T.g_worth c_worth.kp c_worth.b .nil pass0 (pa_cons (pv 5) (pa_cons (pe_op (k_catT (K := K) rfl) (pv 9) (pe_tup (pa_cons (pe_tup (pa_cons pe_int (pa_cons pe_int pa_nil))) pa_nil))) pa_nil))) (pv 10) (nomark _)) (pss_cons (ps_ret pe_bl) pss_nil) pss_nil) (pss_cut (ps_set (i := 11) sc_L_are_great_right.nd rfl (by first | exact Or.inl rfl | exact Or.inr rfl) (pe_make (k := 44) T.m_System (c_System_init.F.mono (by decide)) hr rfl T.c_System c_System_init.b .nil pass0 (pa_cons pe_int (pa_cons (pe_tup (pa_cons (pv 5) (pa_cons (pv 3) pa_nil))) (pa_cons (pe_slice (k_slT (K := K) rfl) (pe_tup (pa_cons (pv 4) (pa_cons (pv 5) pa_nil))) po_none (po_some (pe_call (c_L_draw.F.mono (by decide)) hr rfl T.g_L_draw c_L_draw.kp c_L_draw.b .nil pass0 (pa_cons (pv 0) (pa_cons pe_int pa_nil))))) pa_nil))))) (pss_cons (ps_setLc (i := 12) (own := [("_law_part", 15)]) (g := gName 15) (tt := tYes) rfl sc_L_are_great_right.nd rfl rfl (sw_true rfl rfl rfl (by decide +kernel)) (q_tup (K := K) rfl (q_fld (K := K) rfl (pv 11) rfl)) (blkOk_by (own := [("_law_part", 15)]) (N := ["_law_hand_here", "_law_one", "_law_other", "_law_first", "_law_second", "_law_great_here", "_law_due", "_law_k", "_law_l", "_law_point", "_law_worth_due", "_law_system", "_law_rows", "_law_zero", "_law_flag", "_law_part", "_law_turn"]) (sc := defScope s_L_are_great_right) (by decide +kernel)) (fun _ _ _ _ _ => (pg_name (i := 15) sc_L_are_great_right.nd rfl (by first | exact Or.inl rfl | exact Or.inr rfl))) (fun _ _ _ _ _ => pts_nil) (fun _ _ _ _ _ => (pe_call (c_L_unpacked.F.mono (by decide)) hr rfl T.g_L_unpacked c_L_unpacked.kp c_L_unpacked.b .nil pass0 (pa_cons (pv 15) pa_nil)))) (pss_frz 12 (pss_cut (ps_if (pt_cmpR (k_markN (P := P) (w := w) (K := K) rfl rfl rfl (room_un hr)) (pv 12) (pe_frz (pe_lst (pa_cons (pe_call (c_L_mark.F.mono (by decide)) hr rfl T.g_L_mark c_L_mark.kp c_L_mark.b .nil pass0 (pa_cons (pv 6) pa_nil)) (pa_cons (pe_call (c_L_mark.F.mono (by decide)) hr rfl T.g_L_mark c_L_mark.kp c_L_mark.b .nil pass0 (pa_cons (pv 1) pa_nil)) pa_nil)))) (nomark _)) (pss_cons (ps_ret pe_bl) pss_nil) pss_nil) (pss_cons (ps_set (i := 13) sc_L_are_great_right.nd rfl (by first | exact Or.inl rfl | exact Or.inr rfl) (pe_and (pe_cmpR op_eq (pe_ix (k_ixT (K := K) rfl) (pv 10) pe_int (fun _ _ => rfl)) pe_int (nomark _)) (pe_one (pe_cmpR op_eq (pe_ix (k_ixT (K := K) rfl) (pe_call (c_L_worth.F.mono (by decide)) hr rfl T.g_L_worth c_L_worth.kp c_L_worth.b .nil pass0 (pa_cons (pv 1) (pa_cons (pv 9) pa_nil))) pe_int (fun _ _ => rfl)) pe_int (nomark _))))) (pss_cons (ps_set (i := 14) sc_L_are_great_right.nd rfl (by first | exact Or.inl rfl | exact Or.inr rfl) (pe_call (c_is_root.F.mono (by decide)) hr rfl T.g_is_root c_is_root.kp c_is_root.b .nil pass0 (pa_cons (pe_make (k := 44) T.m_System (c_System_init.F.mono (by decide)) hr rfl T.c_System c_System_init.b .nil pass0 (pa_cons pe_int (pa_cons (pe_tup (pa_cons (pv 5) (pa_cons (pv 3) pa_nil))) (pa_cons (pe_tup pa_nil) pa_nil)))) (pa_cons (pv 9) pa_nil)))) (pss_cons (ps_ret (pe_and (pe_callB (k_isi (P := P) (w := w) (K := K) rfl rfl rfl) rfl T.b_isinstance boot_isinstance (pa_cons (pv 14) (pa_cons (pe_bltn (v := .ty "bool") rfl T.b_bool boot_bool rfl) pa_nil))) (pe_one (pe_cmpR op_eq (pv 14) (pv 13) (nomark _))))) pss_nil))))))))))))))))))), ?_⟩
  refine read_of P w K h rfl fun rs k D hs hD hN => ?_
  obtain ⟨rfl, hk⟩ := hs
  refine ws_asgG (Γ' := []) ?_
  (refine we_call ?_; refine wa_cons ?_; refine we_var rfl ?_; refine wa_nil ?_)
  refine ⟨rfl, fun A' B' hA hB => ?_⟩
  have hD := hA.mul hB
  have l1' : A'.length ≤ 19 := hA.len
  have l2' : B'.length ≤ 19 := hB.len
  have hDl := hD.len
  have lAB : A'.length * B'.length ≤ 16777000 := Nat.le_trans (Nat.mul_le_mul l1' l2') (by decide)
  have lBA : B'.length * A'.length ≤ 16777000 := Nat.le_trans (Nat.mul_le_mul l2' l1') (by decide)
  have lDB : (nz (mulP A' B')).length * B'.length ≤ 16777000 := Nat.le_trans (Nat.mul_le_mul hDl l2') (by decide)
  have s80 : (80 : Nat) < 2 ^ 450000 := small_lt (by decide)
  have s64 : (6400 : Nat) < 2 ^ 450000 := small_lt (by decide)
  skip
  refine ⟨_, _, wg_tupL rfl (wgs_cons wg_name (wgs_cons wg_name wgs_nil)), ?_⟩
  (refine ws_par ?_; refine wa_cons ?_; refine we_call ?_; refine wa_cons ?_; refine we_call ?_; refine wa_cons ?_; refine we_var rfl ?_; refine wa_nil ?_)
  refine ⟨_, rfl, ?_⟩
  (refine wa_nil ?_)
  refine ⟨A', rfl, hA.tsb, ?_⟩
  (refine wa_cons ?_; refine we_call ?_; refine wa_cons ?_; refine we_call ?_; refine wa_cons ?_; refine we_var rfl ?_; refine wa_nil ?_)
  refine ⟨_, rfl, ?_⟩
  (refine wa_nil ?_)
  refine ⟨B', rfl, hB.tsb, ?_⟩
  (refine wa_nil ?_)
  refine ⟨_, _, rfl, ?_⟩
  obtain ⟨D', hDD⟩ : ∃ D', nz (mulP A' B') = D' := ⟨_, rfl⟩
  rw [hDD] at hD hDl lDB
  refine ws_cut [.im (rHand P w), .im (rDI P w K A'), .im (rDI P w K B'), .im (rPT K (CP K) (canon A')), .im (rPT K (CP K) (canon B')), .im (rPT K (CR K) (canon D')), .im (rDI P w K D'), .no, .no, .no, .no, .no, .no, .no, .no, .no, .no] ?_ ?_
  · refine ws_one ?_
    (refine ws_par ?_; refine wa_cons ?_; refine we_call ?_; refine wa_cons ?_; refine we_var rfl ?_; refine wa_cons ?_; refine we_var rfl ?_; refine wa_nil ?_)
    refine times_len pP pP hA.lb hB.lb lAB s80 s80 ?_
    rw [can_mul hA.lb hB.lb]
    (refine wa_cons ?_; refine we_call ?_; refine wa_cons ?_; refine we_var rfl ?_; refine wa_cons ?_; refine we_var rfl ?_; refine wa_nil ?_)
    refine ltimes_len hA.lb hB.lb lAB s80 s80 ?_
    rw [hDD]
    (refine wa_nil ?_)
    refine ⟨_, _, rfl, ?_⟩
    exact ws_nextW rfl (by (repeat' (first | exact Weak.nil | apply Weak.eq | apply Weak.no)))
  (refine ws_if ?_; refine wt_or ?_; refine wt_not ?_; refine wt_B ?_; refine we_call ?_; refine wa_cons ?_; refine we_var rfl ?_; refine wa_cons ?_; refine we_var rfl ?_; refine wa_nil ?_)
  refine ⟨CR K, _, _, _, rfl, pR, hD.lb, by omega, ?_⟩
  (refine ⟨_, rfl, ?_⟩; refine ⟨fun z => Bool.noConfusion (show true = false from by first | exact z | exact z.symm), fun _ => ?_⟩; refine wt_not ?_; refine wt_B ?_; refine we_call ?_; refine wa_cons ?_; refine we_call ?_; refine wa_cons ?_; refine we_var rfl ?_; refine wa_cons ?_; refine we_var rfl ?_; refine wa_nil ?_)
  refine plus_of pR pP hD.lb hA.two (by omega) s80 ?_
  (refine wa_cons ?_; refine we_call ?_; refine wa_cons ?_; refine we_var rfl ?_; refine wa_cons ?_; refine we_var rfl ?_; refine wa_cons ?_; refine we_c ?_; refine wa_nil ?_)
  refine lplus_len hD.lb hA.two (by omega) s80 (by decide) ?_
  have sA := (hD.lb.sum hA.two (s := 1) (by decide)).1
  have sAl := sum_len D' A' 1
  rw [can_sum hD.lb hA.two (by decide)]
  (refine wa_nil ?_)
  refine ⟨CR K, _, _, _, rfl, pR, sA, by omega, ?_⟩
  (refine ⟨_, rfl, ?_⟩; refine ⟨fun z => Bool.noConfusion (show true = false from by first | exact z | exact z.symm), fun _ => ?_⟩; (first | exact ws_end (by assumption) (by assumption) | refine ws_thru ?_); refine ws_if ?_; refine wt_or ?_; refine wt_not ?_; refine wt_B ?_; refine we_call ?_; refine wa_cons ?_; refine we_call ?_; refine wa_cons ?_; refine we_var rfl ?_; refine wa_cons ?_; refine we_var rfl ?_; refine wa_nil ?_)
  refine minus_of pR pR hD.lb hD.lb (by omega) s64 ?_
  rw [can_sum hD.lb hD.lb (by decide), can_less hD.lb]
  (refine wa_cons ?_; (refine we_frzX ?_; refine wx_new ?_); refine wa_nil ?_)
  refine ⟨CR K, [], g2, 0, rfl, pR, LB.nil _ _, Nat.zero_le _, ?_⟩
  (refine ⟨_, rfl, ?_⟩; refine ⟨fun z => Bool.noConfusion (show true = false from by first | exact z | exact z.symm), fun _ => ?_⟩; refine wt_not ?_; refine wt_B ?_; refine we_call ?_; refine wa_cons ?_; refine we_call ?_; refine wa_cons ?_; refine we_var rfl ?_; refine wa_cons ?_; refine we_var rfl ?_; refine wa_nil ?_)
  refine times_len pR pP hD.lb hB.lb lDB s64 s80 ?_
  rw [can_mul hD.lb hB.lb]
  (refine wa_cons ?_; refine we_call ?_; refine wa_cons ?_; refine we_var rfl ?_; refine wa_cons ?_; refine we_var rfl ?_; refine wa_nil ?_)
  refine ltimes_len hD.lb hB.lb lDB s64 s80 ?_
  (refine wa_nil ?_)
  refine ⟨CR K, _, _, _, rfl, pR, (hD.lb.mul hB.lb).1, Nat.le_trans (mul_len _ _) lDB, ?_⟩
  (refine ⟨_, rfl, ?_⟩; refine ⟨fun z => Bool.noConfusion (show true = false from by first | exact z | exact z.symm), fun _ => ?_⟩)
  refine ws_thru ?_
  refine ws_cutEx (fun a : { p : Nat × Nat // p.1 < 4 ∧ p.2 < 4 } => [.im (rHand P w), .im (rDI P w K A'), .im (rDI P w K B'), .im (rPT K (CP K) (canon A')), .im (rPT K (CP K) (canon B')), .im (rPT K (CR K) (canon D')), .im (rDI P w K D'), .im (rInt (a.1.1 : Int)), .im (rInt (a.1.2 : Int)), .no, .no, .no, .no, .no, .no, .no, .no]) ?_ fun a => ?_
  · refine ws_one ?_
    (refine ws_par ?_; refine wa_cons ?_; refine we_call ?_; refine wa_cons ?_; refine we_var rfl ?_; refine wa_cons ?_; refine we_c ?_; refine wa_nil ?_)
    refine ⟨4, rfl, by decide, by decide, fun x hx0 hx => ?_⟩
    (refine wa_cons ?_; refine we_call ?_; refine wa_cons ?_; refine we_var rfl ?_; refine wa_cons ?_; refine we_c ?_; refine wa_nil ?_)
    refine ⟨4, rfl, by decide, by decide, fun y hy0 hy => ?_⟩
    obtain ⟨x, rfl⟩ := Int.eq_ofNat_of_zero_le hx0
    obtain ⟨y, rfl⟩ := Int.eq_ofNat_of_zero_le hy0
    have hx4 : x < 4 := by omega
    have hy4 : y < 4 := by omega
    (refine wa_nil ?_)
    refine ⟨_, _, rfl, ?_⟩
    exact ws_nextX rfl ⟨(x, y), hx4, hy4⟩ (by (repeat' (first | exact Weak.nil | apply Weak.eq | apply Weak.no)))
  have hx4 := a.2.1
  have hy4 := a.2.2
  obtain ⟨x, ex⟩ : ∃ x, a.1.1 = x := ⟨_, rfl⟩
  obtain ⟨y, ey⟩ : ∃ y, a.1.2 = y := ⟨_, rfl⟩
  rw [ex] at hx4
  rw [ey] at hy4
  rw [ex, ey]
  (refine ws_if ?_; refine wt_or ?_; refine wt_test ?_; refine we_op ?_; refine we_call ?_; refine wa_cons ?_; refine we_var rfl ?_; refine wa_nil ?_)
  have hcan := hD.lb.pb.1
  have hlA : D'.length ≤ 16777000 := by omega
  have hlc : (canon D').length ≤ 16777000 := Nat.le_trans (canon_len D') hlA
  refine ⟨CR K, canon D', _, rfl, pR, hcan.bx, hlc, ?_⟩
  (refine we_call ?_; refine wa_cons ?_; refine we_var rfl ?_; refine wa_nil ?_)
  refine ⟨D', _, rfl, hD.lb.bx, hlA, ?_⟩
  rw [topL_perm (nz_self hD.lb).symm]
  refine top_ne _ ?_
  (refine ⟨_, rfl, ?_⟩; refine ⟨fun z => Bool.noConfusion (show true = false from by first | exact z | exact z.symm), fun _ => ?_⟩; refine wt_or ?_; refine wt_test ?_; refine we_op ?_; refine we_call ?_; refine wa_cons ?_; refine we_var rfl ?_; refine wa_cons ?_; refine we_var rfl ?_; refine wa_nil ?_)
  refine ⟨CR K, canon D', _, x, rfl, pR, hcan.bx, hx4, hlc, ?_⟩
  (refine we_call ?_; refine wa_cons ?_; refine we_var rfl ?_; refine wa_cons ?_; refine we_var rfl ?_; refine wa_nil ?_)
  refine ⟨D', _, x, rfl, hD.lb.bx, hx4, hlA, ?_⟩
  rw [degP_perm (nz_self hD.lb).symm]
  (refine ot_ne rfl ?_; refine ⟨_, rfl, ?_⟩)
  rw [decide_eq_true (rfl : V.int ((degP D' x : Nat) : Int) = V.int ((degP D' x : Nat) : Int))]
  refine ⟨fun z => Bool.noConfusion z, fun _ => ?_⟩
  (refine wt_not ?_; refine wt_test ?_; refine we_op ?_; refine we_var rfl ?_; refine we_call ?_; refine wa_cons ?_; refine we_var rfl ?_; refine wa_cons ?_; refine we_var rfl ?_; refine wa_nil ?_)
  refine times_len pP pP hB.lb hA.lb lBA s80 s80 ?_
  rw [can_mul hB.lb hA.lb, can_comm hA.lb hB.lb, hDD]
  refine ot_ownB (.inl ⟨_, rfl⟩) ⟨CR K, canon D', _, _, rfl, pR, .inl ⟨CR K, canon D', pR, rfl, rfl⟩, ?_⟩
  rw [decide_eq_true rfl]
  (refine ⟨_, rfl, ?_⟩; refine ⟨fun z => Bool.noConfusion (show true = false from by first | exact z | exact z.symm), fun _ => ?_⟩; (first | exact ws_end (by assumption) (by assumption) | refine ws_thru ?_); refine ws_if ?_; refine wt_or ?_; refine wt_not ?_; refine wt_B ?_; refine we_call ?_; refine wa_cons ?_; refine we_call ?_; refine wa_cons ?_; refine we_var rfl ?_; refine wa_cons ?_; refine we_var rfl ?_; refine wa_nil ?_)
  have v0 := hD.lb.grp hx4 (degP D' x)
  have v1 := hD.lb.slope hx4 (M := 400) (Nat.le_trans (at_top _ hx4) (by decide))
  have v2 := hD.lb.exch hx4 hy4
  have s13 : (6400 : Nat) < 2 ^ 210 := Nat.lt_of_lt_of_le (by decide : 6400 < 2 ^ 13) (Nat.pow_le_pow_right (by decide) (by decide))
  refine ⟨CR K, canon D', _, x, rfl, pR, hcan.bx, hx4, hlc, ?_, ?_⟩
  · refine Nat.le_trans (degP_le fun t ht => (hcan.bx.exp ht hx4).2) (Nat.le_trans (at_top _ hx4) (by decide))
  (refine wa_cons ?_; refine we_call ?_; refine wa_cons ?_; refine we_var rfl ?_; refine wa_cons ?_; refine we_var rfl ?_; refine wa_nil ?_)
  refine ⟨D', _, _, x, rfl, hD.lb, hx4, hlA, ?_⟩
  (refine wa_nil ?_)
  rw [lead_can hD.lb hx4]
  refine ⟨CR K, _, _, _, rfl, pR, v0, Nat.le_trans (grp_len _ _ _) hlA, ?_⟩
  (refine ⟨_, rfl, ?_⟩; refine ⟨fun z => Bool.noConfusion (show true = false from by first | exact z | exact z.symm), fun _ => ?_⟩; refine wt_not ?_; refine wt_B ?_; refine we_call ?_; refine wa_cons ?_; refine we_call ?_; refine wa_cons ?_; refine we_var rfl ?_; refine wa_cons ?_; refine we_var rfl ?_; refine wa_nil ?_)
  refine ⟨CR K, canon D', _, x, 210, rfl, pR, hcan.bx, hcan.can.nd, bdP_of hcan.l s13, by decide, by decide, Nat.lt_of_le_of_lt (at_top _ hx4) (by decide), hx4, hlc, ?_⟩
  (refine wa_cons ?_; refine we_call ?_; refine wa_cons ?_; refine we_var rfl ?_; refine wa_cons ?_; refine we_var rfl ?_; refine wa_nil ?_)
  refine ⟨D', _, x, 210, rfl, hD.lb.bx, hD.lb.nd, bdP_of hD.lb.l s13, by decide, by decide, Nat.lt_of_le_of_lt (at_top _ hx4) (by decide), hx4, hlA, ?_⟩
  (refine wa_nil ?_)
  rw [slope_can hD.lb hx4]
  refine ⟨CR K, _, _, _, rfl, pR, v1, Nat.le_trans (slF_len _ _) hlA, ?_⟩
  (refine ⟨_, rfl, ?_⟩; refine ⟨fun z => Bool.noConfusion (show true = false from by first | exact z | exact z.symm), fun _ => ?_⟩; (first | exact ws_end (by assumption) (by assumption) | refine ws_thru ?_); refine ws_if ?_; refine wt_not ?_; refine wt_B ?_; refine we_call ?_; refine wa_cons ?_; refine we_call ?_; refine wa_cons ?_; refine we_var rfl ?_; refine wa_cons ?_; refine we_var rfl ?_; refine wa_cons ?_; refine we_var rfl ?_; refine wa_nil ?_)
  refine ⟨CR K, canon D', _, x, y, rfl, pR, hcan.bx, hcan.can.nd, hx4, hy4, hlc, ?_⟩
  (refine wa_cons ?_; refine we_call ?_; refine wa_cons ?_; refine we_var rfl ?_; refine wa_cons ?_; refine we_var rfl ?_; refine wa_cons ?_; refine we_var rfl ?_; refine wa_nil ?_)
  refine ⟨D', _, x, y, rfl, hD.lb.bx, hD.lb.nd, hx4, hy4, hlA, ?_⟩
  (refine wa_nil ?_)
  rw [exch_can hD.lb hx4 hy4]
  refine ⟨CR K, _, _, _, rfl, pR, v2, ?_, ?_⟩
  · show (D'.map _).length ≤ _
    rw [List.length_map]
    exact hlA
  (refine ⟨_, rfl, ?_⟩; refine ⟨fun z => Bool.noConfusion (show true = false from by first | exact z | exact z.symm), fun _ => ?_⟩)
  refine ws_thru ?_
  refine ws_cutEx (fun a : { ps : List Rat // ps.length = 3 ∧ ∀ p, p ∈ ps → p.num.natAbs < 2 ^ 2 ∧ p.den < 2 ^ 2 } => [.im (rHand P w), .im (rDI P w K A'), .im (rDI P w K B'), .im (rPT K (CP K) (canon A')), .im (rPT K (CP K) (canon B')), .im (rPT K (CR K) (canon D')), .im (rDI P w K D'), .no, .no, .im (rTup K (a.1.map (rQ K))), .no, .no, .no, .no, .no, .no, .no]) ?_ fun a => ?_
  · refine ws_one ?_
    ((first | (refine ws_asgX ?_; refine wx_xpairs ?_) | refine ws_asg ?_); (first | refine we_cb ?_ | refine we_xlen ?_); refine wa_cons ?_; refine we_frzL ?_)
    refine wl_lcN (List.range 3) (g := fun j => rInt (j : Int)) (h := rQ K) (fun _ q => q.num.natAbs < 2 ^ 2 ∧ q.den < 2 ^ 2) ?_
    (refine wi_rng1 ?_; refine wa_cons ?_; refine we_c ?_; refine wa_nil ?_; refine ⟨_, rfl, ?_⟩)
    refine ⟨by decide, by decide, rfl, fun j hj => by rw [List.getElem_range], by decide, fun j hj G' st' => ?_, fun ps hp => ?_⟩
    · refine ⟨_, _, ?_, wg_name, ?_⟩
      · intro j hj; exact hj
      · (refine we_call ?_; refine wa_cons ?_; refine we_var rfl ?_; refine wa_cons ?_; (refine we_frzL ?_; refine wl_lst ?_); refine wa_cons ?_; refine we_tup ?_; refine wa_cons ?_; refine we_c ?_; refine wa_cons ?_; refine we_c ?_; refine wa_nil ?_; refine ⟨Nat.le_of_ble_eq_true rfl, ?_⟩; refine wa_cons ?_; refine we_tup ?_; refine wa_cons ?_; refine we_c ?_; refine wa_cons ?_; refine we_c ?_; refine wa_nil ?_; refine ⟨Nat.le_of_ble_eq_true rfl, ?_⟩; refine wa_cons ?_; refine we_tup ?_; refine wa_cons ?_; refine we_un ?_; refine we_c ?_; refine ut_I ?_; refine wa_cons ?_; refine we_c ?_; refine wa_nil ?_; refine ⟨Nat.le_of_ble_eq_true rfl, ?_⟩; refine wa_cons ?_; refine we_tup ?_; refine wa_cons ?_; refine we_c ?_; refine wa_cons ?_; refine we_c ?_; refine wa_nil ?_; refine ⟨Nat.le_of_ble_eq_true rfl, ?_⟩; refine wa_cons ?_; refine we_tup ?_; refine wa_cons ?_; refine we_un ?_; refine we_c ?_; refine ut_I ?_; refine wa_cons ?_; refine we_c ?_; refine wa_nil ?_; refine ⟨Nat.le_of_ble_eq_true rfl, ?_⟩; refine wa_nil ?_; refine ⟨Nat.le_of_ble_eq_true rfl, ?_⟩; refine wa_nil ?_)
        refine ⟨_, rfl, Nat.le_of_ble_eq_true rfl, Nat.le_of_ble_eq_true rfl, fun r hr => ?_⟩
        simp only [List.mem_cons, List.not_mem_nil, or_false] at hr
        rcases hr with rfl | rfl | rfl | rfl | rfl
        · exact ⟨0, rfl, by decide, by decide⟩
        · exact ⟨1, rfl, by decide, by decide⟩
        · exact ⟨-1, rfl, by decide, by decide⟩
        · exact ⟨1 / 2, half_Q.symm, by decide +kernel, by decide +kernel⟩
        · exact ⟨-3, rfl, by decide, by decide⟩
    (refine wa_nil ?_; refine ct_tuple ?_)
    have hlen : ps.length = 3 := (Paired.length hp).symm
    have hall : ∀ p, p ∈ ps → p.num.natAbs < 2 ^ 2 ∧ p.den < 2 ^ 2 := fun p h => pr_all (T := fun q : Rat => q.num.natAbs < 2 ^ 2 ∧ q.den < 2 ^ 2) (fun _ _ h => h) hp p h
    exact ws_nextX rfl ⟨ps, hlen, hall⟩ (by (repeat' (first | exact Weak.nil | apply Weak.eq | apply Weak.no)))
  have hlen := a.2.1
  have hall := a.2.2
  obtain ⟨ps, eps⟩ : ∃ ps, a.1 = ps := ⟨_, rfl⟩
  rw [eps] at hlen hall
  rw [eps]
  ((first | refine ws_asg ?_ | refine ws_asgG ?_); refine we_call ?_; refine wa_cons ?_; refine we_var rfl ?_; refine wa_cons ?_; refine we_var rfl ?_; refine wa_nil ?_)
  have hps : PsB 2 (ps ++ [0]) := ⟨by rw [List.length_append, hlen]; rfl, fun p h => by
    rcases List.mem_append.mp h with h | h
    · exact hall p h
    · rw [List.mem_singleton.mp h]
      exact ⟨by decide, by decide⟩⟩
  have hP : PtOk ps (ps ++ [0]) g2 2 := ⟨hps, fun j hj => by rw [List.getD_eq_getElem?_getD, List.getElem?_append_left hj, ← List.getD_eq_getElem?_getD], by omega, by rw [hlen]; exact g2_u⟩
  have k13 : ∀ {n : Nat}, n ≤ 6400 → n < 2 ^ 13 := fun h => by omega
  refine ⟨D', g2, ps, ps ++ [0], _, 2, 13, rfl, .inl rfl, hP, hD.lb.bx, hD.lb.nd, k13 hD.lb.l, by decide, by decide, hlA, ?_⟩
  (refine ws_if ?_; refine wt_test ?_; refine we_op ?_; refine we_call ?_; refine wa_cons ?_; refine we_var rfl ?_; refine wa_cons ?_; refine we_op ?_; refine we_var rfl ?_; refine we_tup ?_; refine wa_cons ?_; refine we_tup ?_; refine wa_cons ?_; refine we_c ?_; refine wa_cons ?_; refine we_c ?_; refine wa_nil ?_; refine ⟨Nat.le_of_ble_eq_true rfl, ?_⟩; refine wa_nil ?_; refine ⟨Nat.le_of_ble_eq_true rfl, ?_⟩; refine ot_catT ?_ ?_)
  · rw [List.length_map, hlen]
    show 3 + 1 ≤ sizeLine
    decide
  have eW : wR (ps ++ [0]) (canon D') = wR (ps ++ [0]) D' := wR_pol _ hD.lb.pb.2
  (refine wa_nil ?_)
  refine ⟨CR K, canon D', g2, ps ++ [0], 2, 13, by rw [List.map_append]; rfl, pR, hcan.bx, hps, k13 hcan.l, by decide, by decide, hlc, ?_⟩
  rw [eW]
  (refine we_var rfl ?_)
  refine ot_neK ?_
  rw [decide_eq_true rfl]
  have okD : PoOk K g2 (⟨CR K, canon D'⟩ : PoS K) := ⟨pR, hcan.bx, hlc⟩
  have okA : PoOk K g2 (⟨CP K, canon A'⟩ : PoS K) := ⟨pP, hA.two.pb.1.bx, Nat.le_trans (canon_len A') (by omega)⟩
  have okB : PoOk K g2 (⟨CP K, canon B'⟩ : PoS K) := ⟨pP, hB.two.pb.1.bx, Nat.le_trans (canon_len B') (by omega)⟩
  have two : ∀ p ∈ ([⟨CR K, canon D'⟩, ⟨CP K, canon A'⟩] : List (PoS K)), p = ⟨CR K, canon D'⟩ ∨ p = ⟨CP K, canon A'⟩ := fun p h => by
    simpa only [List.mem_cons, List.not_mem_nil, or_false] using h
  have okE : ∀ p ∈ ([⟨CR K, canon D'⟩, ⟨CP K, canon A'⟩] : List (PoS K)), PoOk K g2 p := fun p h => by
    rcases two p h with rfl | rfl
    · exact okD
    · exact okA
  (refine ⟨_, rfl, ?_⟩; refine ⟨fun z => Bool.noConfusion (show true = false from by first | exact z | exact z.symm), fun _ => ?_⟩)
  refine ws_thru ?_
  refine ws_cutEx (fun a : { Bz : List (PoS K) // Bz.length ≤ 6 ∧ ∀ p ∈ Bz, PoOk K g2 p } => [.im (rHand P w), .im (rDI P w K A'), .im (rDI P w K B'), .im (rPT K (CP K) (canon A')), .im (rPT K (CP K) (canon B')), .im (rPT K (CR K) (canon D')), .im (rDI P w K D'), .no, .no, .im (rTup K (ps.map (rQ K))), .im (rQ K (wR (ps ++ [0]) D')), .im (rSy K 3 [⟨CR K, canon D'⟩, ⟨CP K, canon A'⟩] a.1), .no, .no, .no, .no, .no]) ?_ fun a => ?_
  · refine ws_one ?_
    ((first | refine ws_asg ?_ | refine ws_asgG ?_); refine we_make ?_; refine wa_cons ?_; refine we_c ?_; refine wa_cons ?_; refine we_tup ?_; refine wa_cons ?_; refine we_var rfl ?_; refine wa_cons ?_; refine we_var rfl ?_; refine wa_nil ?_; refine ⟨Nat.le_of_ble_eq_true rfl, ?_⟩; refine wa_cons ?_; refine we_slT ?_; refine we_tup ?_; refine wa_cons ?_; refine we_var rfl ?_; refine wa_cons ?_; refine we_var rfl ?_; refine wa_nil ?_; refine ⟨Nat.le_of_ble_eq_true rfl, ?_⟩; refine ⟨_, rfl, ?_⟩; refine wo_none ?_; refine wo_some ?_; refine we_call ?_; refine wa_cons ?_; refine we_var rfl ?_; refine wa_cons ?_; refine we_c ?_; refine wa_nil ?_)
    refine ⟨3, rfl, by decide, by decide, fun z hz0 hz => ?_⟩
    obtain ⟨z, rfl⟩ := Int.eq_ofNat_of_zero_le hz0
    have hz3 : z < 3 := by omega
    (refine ⟨_, rfl, ?_⟩; refine wa_nil ?_)
    obtain ⟨Bz, hBz, hB6, hBm⟩ : ∃ Bz : List (PoS K), cutR [rPT K (CP K) (canon B'), rPT K (CR K) (canon D')] none (some ((z : Nat) : Int)) = Bz.map rPo ∧ Bz.length ≤ 6 ∧ ∀ p ∈ Bz, PoOk K g2 p := by
      match z, hz3 with
      | 0, _ => exact ⟨[], rfl, Nat.le_of_ble_eq_true rfl, fun p h => nomatch h⟩
      | 1, _ => exact ⟨[⟨CP K, canon B'⟩], rfl, Nat.le_of_ble_eq_true rfl, fun p h => by rw [List.mem_singleton.mp h]; exact okB⟩
      | 2, _ =>
        refine ⟨[⟨CP K, canon B'⟩, ⟨CR K, canon D'⟩], rfl, Nat.le_of_ble_eq_true rfl, fun p h => ?_⟩
        simp only [List.mem_cons, List.not_mem_nil, or_false] at h
        rcases h with rfl | rfl
        · exact okB
        · exact okD
    have ok1 : SyOk K g2 3 [⟨CR K, canon D'⟩, ⟨CP K, canon A'⟩] Bz := ⟨g2_u, Nat.le_of_ble_eq_true rfl, hB6, okE, hBm, by decide, by decide⟩
    refine ⟨_, ⟨3, [⟨CR K, canon D'⟩, ⟨CP K, canon A'⟩], Bz, g2, by rw [hBz]; rfl, ok1, rfl⟩, ?_⟩
    skip
    exact ws_nextX rfl ⟨Bz, hB6, hBm⟩ (by (repeat' (first | exact Weak.nil | apply Weak.eq | apply Weak.no)))
  have hB6 := a.2.1
  have hBm := a.2.2
  obtain ⟨Bz, eBz⟩ : ∃ Bz, a.1 = Bz := ⟨_, rfl⟩
  rw [eBz] at hB6 hBm
  rw [eBz]
  have ok1 : SyOk K g2 3 [⟨CR K, canon D'⟩, ⟨CP K, canon A'⟩] Bz := ⟨g2_u, Nat.le_of_ble_eq_true rfl, hB6, okE, hBm, by decide, by decide⟩
  (refine ws_asgL ?_)
  refine wl_lcM ([⟨CR K, canon D'⟩, ⟨CP K, canon A'⟩] : List (PoS K)) (g := rPo) (h := fun p => rLst [rStr "P", rDI P w K p.A]) ?_
  (refine wi_tup ?_; refine we_fld ?_; refine we_var rfl ?_)
  refine ⟨_, syF K 3 [⟨CR K, canon D'⟩, ⟨CP K, canon A'⟩] Bz, rTup K (([⟨CR K, canon D'⟩, ⟨CP K, canon A'⟩] : List (PoS K)).map rPo), rfl, cs, ne, rfl, _, rfl, by rw [List.length_map], fun i hi => getD_map hi, Nat.le_of_ble_eq_true rfl, fun p hp G st => ?_, ?_⟩
  · refine ⟨_, _, ?_, wg_name, ?_⟩
    · intro j hj; exact hj
    · have q := okE p hp
      have tb : Tb p.A := by
        rcases two p hp with rfl | rfl
        · exact hcan.tb
        · exact hA.lb.pb.1.tb
      (refine we_call ?_; refine wa_cons ?_; refine we_var rfl ?_; refine wa_nil ?_)
      refine ⟨p.C, p.A, rfl, q.c, tb, q.len, ?_⟩
      rfl
  refine ws_frzL rfl ?_
  refine ws_cut [.im (rHand P w), .im (rDI P w K A'), .im (rDI P w K B'), .im (rPT K (CP K) (canon A')), .im (rPT K (CP K) (canon B')), .im (rPT K (CR K) (canon D')), .im (rDI P w K D'), .no, .no, .im (rTup K (ps.map (rQ K))), .im (rQ K (wR (ps ++ [0]) D')), .no, .no, .no, .no, .no, .no] ?_ ?_
  · refine ws_one ?_
    (refine ws_if ?_; refine wt_test ?_; refine we_op ?_; refine we_var rfl ?_; (refine we_frzL ?_; refine wl_lst ?_); refine wa_cons ?_; refine we_call ?_; refine wa_cons ?_; refine we_var rfl ?_; refine wa_nil ?_)
    refine ⟨_, rfl, ?_⟩
    (refine wa_cons ?_; refine we_call ?_; refine wa_cons ?_; refine we_var rfl ?_; refine wa_nil ?_)
    refine ⟨_, rfl, ?_⟩
    (refine wa_nil ?_; refine ⟨Nat.le_of_ble_eq_true rfl, ?_⟩)
    refine ot_markN (S := canon D') (T := canon A') (eqT_canon hD.lb) (eqT_canon hA.lb) ?_
    (refine ⟨_, rfl, ?_⟩; refine ⟨fun z => Bool.noConfusion (show true = false from by first | exact z | exact z.symm), fun _ => ?_⟩)
    exact ws_nextW rfl (by (repeat' (first | exact Weak.nil | apply Weak.eq | apply Weak.no)))
  have eA : wR (ps ++ [0]) (canon A') = wR (ps ++ [0]) A' := wR_pol _ hA.lb.pb.2
  have hbl : ∀ q : Rat, decide (V.int q.num = V.int 0) = decide (q = 0) := fun q => by
    rw [decide_eq_decide]
    constructor
    · intro h
      exact Rat.num_eq_zero.mp (by injection h)
    · intro h
      rw [h]
      rfl
  refine ws_asg ?_
  refine we_allP (fun b : Bool => b = (decide (wR (ps ++ [0]) D' = 0) && decide (wR (ps ++ [0]) A' = 0))) rBl (fun k' hk' => ?_) (fun b hb => ?_)
  · (refine we_andV ?_; refine we_op ?_; refine we_op ?_; refine we_var rfl ?_; refine we_c ?_)
    refine ot_ixT (r := rInt (wR (ps ++ [0]) D').num) rfl ?_
    (refine we_c ?_; refine ot_eq rfl ?_; refine ⟨_, rfl, ?_⟩)
    rw [hbl]
    cases h0 : decide (wR (ps ++ [0]) D' = 0) with
    | false =>
      (refine ⟨fun z => Bool.noConfusion (show true = false from by first | exact z | exact z.symm), fun _ => ?_⟩)
      exact hk' false (by rw [h0]; rfl)
    | true =>
      (refine ⟨fun _ => ?_, fun z => Bool.noConfusion (show true = false from by first | exact z | exact z.symm)⟩; refine we_op ?_; refine we_op ?_; refine we_call ?_; refine wa_cons ?_; refine we_var rfl ?_; refine wa_cons ?_; refine we_var rfl ?_; refine wa_nil ?_)
      refine ⟨A', g2, ps, ps ++ [0], _, 2, 13, rfl, .inl rfl, hP, hA.two.bx, hA.two.nd, k13 (Nat.le_trans hA.two.l (by decide)), by decide, by decide, by omega, ?_⟩
      (refine we_c ?_)
      refine ot_ixT (r := rInt (wR (ps ++ [0]) A').num) rfl ?_
      (refine we_c ?_; refine ot_eq rfl ?_)
      rw [hbl]
      exact hk' _ (by rw [h0]; rfl)
  · ((first | refine ws_asg ?_ | refine ws_asgG ?_); refine we_call ?_; refine wa_cons ?_; refine we_make ?_; refine wa_cons ?_; refine we_c ?_; refine wa_cons ?_; refine we_tup ?_; refine wa_cons ?_; refine we_var rfl ?_; refine wa_cons ?_; refine we_var rfl ?_; refine wa_nil ?_; refine ⟨Nat.le_of_ble_eq_true rfl, ?_⟩; refine wa_cons ?_; refine we_tup ?_; refine wa_nil ?_; refine ⟨Nat.le_of_ble_eq_true rfl, ?_⟩; refine wa_nil ?_)
    refine ⟨_, ⟨3, [⟨CR K, canon D'⟩, ⟨CP K, canon A'⟩], [], g2, rfl, ok1.none, rfl⟩, ?_⟩
    (refine wa_cons ?_; refine we_var rfl ?_; refine wa_nil ?_)
    have wE : WoOk K g2 (ps ++ [0]) 2 13 [⟨CR K, canon D'⟩, ⟨CP K, canon A'⟩] := ⟨hps, by decide, by decide, okE, fun p h => by
      rcases two p h with rfl | rfl
      · exact k13 hcan.l
      · exact k13 (Nat.le_trans hA.two.pb.1.l (by decide)), Nat.le_of_ble_eq_true rfl⟩
    have wB : WoOk K g2 (ps ++ [0]) 2 13 [] := ⟨hps, by decide, by decide, fun p h => (nomatch h), fun p h => (nomatch h), Nat.le_of_ble_eq_true rfl⟩
    refine ⟨[⟨CR K, canon D'⟩, ⟨CP K, canon A'⟩], [], ps, g2, 2, 13, rfl, hlen, wE, wB, ?_⟩
    (refine ws_retS (by assumption) ?_; refine we_andV ?_; (first | refine we_cb ?_ | refine we_xlen ?_); refine wa_cons ?_; refine we_var rfl ?_; refine wa_cons ?_; refine we_c ?_; refine wa_nil ?_)
    refine ct_isi ty_bl (.ty _) (k_bb _) ?_
    (refine ⟨_, rfl, ?_⟩; refine ⟨fun _ => ?_, fun z => Bool.noConfusion (show true = false from by first | exact z | exact z.symm)⟩; refine we_op ?_; refine we_var rfl ?_; refine we_var rfl ?_; refine ot_eq rfl ?_)
    have ef : ((([⟨CR K, canon D'⟩, ⟨CP K, canon A'⟩] : List (PoS K)).all fun p => decide (wR (ps ++ [0]) p.A = 0)) && (([] : List (PoS K)).all fun p => !decide (wR (ps ++ [0]) p.A = 0))) = b := by
      rw [hb, ← eW, ← eA]
      simp only [List.all_cons, List.all_nil, Bool.and_true]
    rw [ef, decide_eq_true rfl]
    exact hk
end Lw
set_option Elab.async false
set_option linter.all false
set_option maxRecDepth 100000
set_option maxHeartbeats 1000000
namespace Lw
open PySem PySem.Spec PyProof.Rows L2 BX
def S_L_some2 (P : Program) (w : World) (K : PySem.W.Frag) : Spc := fun rs k => ∃ most : Nat, rs = [rHand P w, rInt (most : Int)] ∧ most ≤ 60 ∧ ∀ m, LB (bq 60) (2 ^ 200) m → m.length ≤ 40 → k (rDI P w K m)
theorem ok_L_some {P : Program} {w : World} {K : PySem.W.Frag} {mg : Str → Option Value} {base : Heap} {f : Addr} {fd fd_L_plus fd_L_draw fd_L_any : FuncData} (T : Txt K mg) (F : FunD K "_law_some" "_law_some" (defArgs s_L_some) (defBody s_L_some) (defScope s_L_some) [] [] f fd) (c_L_plus : Callee P w K mg base (He.ga K "_law_plus") fd_L_plus ["_law_one", "_law_other", "_law_by"] 1 (spOf (S_L_plus P w K))) (c_L_draw : Callee P w K mg base (He.ga K "_law_draw") fd_L_draw ["_law_hand_here", "_law_many"] 1 (spOf (S_L_draw P w K))) (c_L_any : Callee P w K mg base (He.ga K "_law_any") fd_L_any ["_law_hand_here", "_law_things"] 2 (spOf (S_L_any P w K)))  :
    FnOk P w K mg base CX0 3 f fd ["_law_hand_here", "_law_most"] (spOf (S_L_some2 P w K)) := by
  refine F.ok sc_L_some (len_of (by intro rs k h; first | (obtain ⟨e, _⟩ := h; subst e; exact rfl) | (obtain ⟨_, e, _⟩ := h; subst e; exact rfl) | (obtain ⟨_, _, e, _⟩ := h; subst e; exact rfl) | (obtain ⟨_, _, _, e, _⟩ := h; subst e; exact rfl) | (obtain ⟨_, _, _, _, e, _⟩ := h; subst e; exact rfl) | (obtain ⟨_, _, _, _, _, e, _⟩ := h; subst e; exact rfl) | (obtain ⟨_, _, _, _, _, _, e, _⟩ := h; subst e; exact rfl) | (obtain ⟨_, _, _, _, _, _, _, e, _⟩ := h; subst e; exact rfl) | (obtain ⟨_, _, _, _, _, _, _, _, e, _⟩ := h; subst e; exact rfl) | (obtain ⟨_, _, _, _, _, _, _, _, _, e, _⟩ := h; subst e; exact rfl) | (obtain ⟨_, _, _, _, _, _, _, _, _, _, e, _⟩ := h; subst e; exact rfl) | (obtain ⟨_, _, _, _, _, _, _, _, _, _, _, e, _⟩ := h; subst e; exact rfl) | (obtain ⟨_, _, _, _, _, _, _, _, _, _, _, _, e, _⟩ := h; subst e; exact rfl))) (fun cdv A outer s H vs Q E hr h => ?_)
  
  refine ⟨_, PSs.nox (pss_cons (ps_par (i := 2) (j := 3) (by rfl) sc_L_some.nd rfl rfl (by decide) rfl rfl (pa_cons (pe_call (c_L_draw.F.mono (by decide)) hr rfl T.g_L_draw c_L_draw.kp c_L_draw.b .nil pass0 (pa_cons (pv 0) (pa_cons pe_int pa_nil))) (pa_cons (pe_frz (q_new (P := P) (w := w) rfl rfl)) pa_nil)) (by rfl)) (pss_cons (ps_set (i := 4) sc_L_some.nd rfl (by first | exact Or.inl rfl | exact Or.inr rfl) (pe_ifExp (pt_cmpR op_gt (pv 2) pe_int (nomark _)) (pe_call (c_L_any.F.mono (by decide)) hr rfl T.g_L_any c_L_any.kp c_L_any.b .nil pass0 (pa_cons (pv 0) (pa_cons (pe_frz (pe_lst (pa_cons pe_int (pa_cons pe_int (pa_cons pe_int (pa_cons pe_int (pa_cons pe_int (pa_cons pe_int pa_nil)))))))) pa_nil))) pe_int)) (pss_cons (ps_for PassesOwn.never rfl (pi_range1 rfl T.b_range (pa_cons (pv 4) pa_nil)) (pg_name (i := 5) sc_L_some.nd rfl (by first | exact Or.inl rfl | exact Or.inr rfl)) (pss_cons (ps_set (i := 6) sc_L_some.nd rfl (by first | exact Or.inl rfl | exact Or.inr rfl) (pe_callTy (k_tupleOf (K := K) rfl) rfl T.b_tuple boot_tuple (pa_cons (pe_frz (pe_lc (own := [("_law_k", 8)]) (g := gName 8) (tt := tYes) rfl sc_L_some.nd (pi_range1 rfl T.b_range (pa_cons pe_int pa_nil)) (blkOk_by (own := [("_law_k", 8)]) (N := ["_law_hand_here", "_law_most", "_law_kind", "_law_found", "_law_many", "_law_turn", "_law_powers", "_law_count", "_law_k"]) (sc := defScope s_L_some) (by decide +kernel)) (fun _ _ _ _ _ => (pg_name (i := 8) sc_L_some.nd rfl (by first | exact Or.inl rfl | exact Or.inr rfl))) (fun _ _ _ _ _ => pts_nil) (fun _ _ _ _ _ => (pe_ifExp (pt_cmpR op_eq (pe_call (c_L_draw.F.mono (by decide)) hr rfl T.g_L_draw c_L_draw.kp c_L_draw.b .nil pass0 (pa_cons (pv 0) (pa_cons pe_int pa_nil))) pe_int (nomark _)) (pe_call (c_L_draw.F.mono (by decide)) hr rfl T.g_L_draw c_L_draw.kp c_L_draw.b .nil pass0 (pa_cons (pv 0) (pa_cons (pe_op op_add pe_int (pv 1)) pa_nil))) pe_int)))) pa_nil))) (pss_cut (ps_if (pt_cmpR op_eq (pv 2) pe_int (nomark _)) (pss_cons (ps_set (i := 6) sc_L_some.nd rfl (by first | exact Or.inl rfl | exact Or.inr rfl) (pe_callTy (k_tupleOf (K := K) rfl) rfl T.b_tuple boot_tuple (pa_cons (pe_frz (pe_lc (own := [("_law_k", 8)]) (g := gName 8) (tt := tYes) rfl sc_L_some.nd (pi_range1 rfl T.b_range (pa_cons pe_int pa_nil)) (blkOk_by (own := [("_law_k", 8)]) (N := ["_law_hand_here", "_law_most", "_law_kind", "_law_found", "_law_many", "_law_turn", "_law_powers", "_law_count", "_law_k"]) (sc := defScope s_L_some) (by decide +kernel)) (fun _ _ _ _ _ => (pg_name (i := 8) sc_L_some.nd rfl (by first | exact Or.inl rfl | exact Or.inr rfl))) (fun _ _ _ _ _ => pts_nil) (fun _ _ _ _ _ => (pe_call (c_L_any.F.mono (by decide)) hr rfl T.g_L_any c_L_any.kp c_L_any.b .nil pass0 (pa_cons (pv 0) (pa_cons (pe_frz (pe_lst (pa_cons pe_int (pa_cons pe_int (pa_cons pe_int (pa_cons pe_int (pa_cons pe_int pa_nil))))))) pa_nil)))))) pa_nil))) pss_nil) pss_nil) (pss_cons (ps_set (i := 7) sc_L_some.nd rfl (by first | exact Or.inl rfl | exact Or.inr rfl) (pe_call (c_L_any.F.mono (by decide)) hr rfl T.g_L_any c_L_any.kp c_L_any.b .nil pass0 (pa_cons (pv 0) (pa_cons (pe_frz (pe_lst (pa_cons pe_int (pa_cons (pe_un un_neg pe_int) (pa_cons pe_int (pa_cons (pe_un un_neg pe_int) (pa_cons pe_int (pa_cons pe_int pa_nil)))))))) pa_nil)))) (pss_cut (ps_if (pt_cmpR op_eq (pv 2) pe_int (nomark _)) (pss_cons (ps_set (i := 7) sc_L_some.nd rfl (by first | exact Or.inl rfl | exact Or.inr rfl) (pe_op op_add (pe_op op_mulW (pv 7) (pe_op op_pow pe_int pe_int)) (pe_call (c_L_draw.F.mono (by decide)) hr rfl T.g_L_draw c_L_draw.kp c_L_draw.b .nil pass0 (pa_cons (pv 0) (pa_cons pe_int pa_nil))))) pss_nil) pss_nil) (pss_cons (ps_set (i := 3) sc_L_some.nd rfl (by first | exact Or.inl rfl | exact Or.inr rfl) (pe_call (c_L_plus.F.mono (by decide)) hr rfl T.g_L_plus c_L_plus.kp c_L_plus.b .nil pass0 (pa_cons (pv 3) (pa_cons (pe_frz (q_disp (P := P) (w := w) (K := K) rfl rfl rfl hr.units (pps_cons (pv 6) (pv 7) pps_nil) (by rfl) (by rfl) (fun z => by cases z) (by decide))) (pa_cons pe_int pa_nil))))) pss_nil)))))) (pss_cons (ps_ret (pv 3)) pss_nil)))), ?_⟩
  refine read_of P w K h rfl fun rs k D hs hD hN => ?_
  obtain ⟨most, rfl, hmost, hk⟩ := hs
  (refine ws_par ?_; refine wa_cons ?_; refine we_call ?_; refine wa_cons ?_; refine we_var rfl ?_; refine wa_cons ?_; refine we_c ?_; refine wa_nil ?_)
  refine ⟨12, rfl, by decide, by decide, fun kd kd0 kd1 => ?_⟩
  (refine wa_cons ?_; (refine we_frzX ?_; refine wx_new ?_); refine wa_nil ?_)
  refine ⟨_, _, rfl, ?_⟩
  refine ws_asg ?_
  refine we_allP (fun n : Nat => n ≤ 40) (fun n => rInt (n : Int)) (fun k' hk' => ?_) (fun n hn => ?_)
  · (refine we_if ?_; refine wt_test ?_; refine we_op ?_; refine we_var rfl ?_; refine we_c ?_; refine ot_I0 ?_; refine ⟨_, rfl, ?_⟩)
    refine ⟨fun _ => ?_, fun _ => ?_⟩
    · (refine we_call ?_; refine wa_cons ?_; refine we_var rfl ?_; refine wa_cons ?_; (refine we_frzL ?_; refine wl_lst ?_); refine wa_cons ?_; refine we_c ?_; refine wa_cons ?_; refine we_c ?_; refine wa_cons ?_; refine we_c ?_; refine wa_cons ?_; refine we_c ?_; refine wa_cons ?_; refine we_c ?_; refine wa_cons ?_; refine we_c ?_; refine wa_nil ?_; refine ⟨Nat.le_of_ble_eq_true rfl, ?_⟩; refine wa_nil ?_)
      refine ⟨_, rfl, by decide, by decide, fun r hr => ?_⟩
      simp only [List.mem_cons, List.not_mem_nil, or_false] at hr
      rcases hr with rfl | rfl | rfl | rfl | rfl | rfl
      · exact hk' 0 (by decide)
      · exact hk' 1 (by decide)
      · exact hk' 2 (by decide)
      · exact hk' 3 (by decide)
      · exact hk' 4 (by decide)
      · exact hk' 6 (by decide)
    · (refine we_c ?_)
      exact hk' 40 (by decide)
  · refine ws_forQ (fun j m => LB (bq 60) (j * 2 ^ 100) m ∧ m.length ≤ j) ([] : PT) (fun m => [.im (rHand P w), .im (rInt (most : Int)), .im (rInt kd), .im (rDI P w K m), .im (rInt (n : Int)), .no, .no, .no, .no]) ?_
    (refine wi_rng1 ?_; refine wa_cons ?_; refine we_var rfl ?_; refine wa_nil ?_; refine ⟨_, rfl, ?_⟩)
    refine ⟨by omega, by omega, by (repeat' (first | exact Weak.nil | apply Weak.eq | apply Weak.no)), ⟨LB.nil _ _, Nat.zero_le _⟩, fun j hj m ⟨hI, hlen⟩ G st => ?_, fun m ⟨hI, hlen⟩ => ?_⟩
    · refine ⟨_, _, wg_name, ?_⟩
      ((first | (refine ws_asgX ?_; refine wx_xpairs ?_) | refine ws_asg ?_); (first | refine we_cb ?_ | refine we_xlen ?_); refine wa_cons ?_; refine we_frzL ?_)
      refine wl_lcN (List.range 4) (g := fun j => rInt (j : Int)) (h := rInt) (fun _ y => 0 ≤ y ∧ y ≤ ((60 : Nat) : Int)) ?_
      (refine wi_rng1 ?_; refine wa_cons ?_; refine we_c ?_; refine wa_nil ?_; refine ⟨_, rfl, ?_⟩)
      refine ⟨by decide, by decide, rfl, fun j hj => by rw [List.getElem_range], by decide, fun j hj G' st' => ?_, fun ys hp => ?_⟩
      · refine ⟨_, _, ?_, wg_name, ?_⟩
        · intro j hj; exact hj
        · (refine we_if ?_; refine wt_test ?_; refine we_op ?_; refine we_call ?_; refine wa_cons ?_; refine we_var rfl ?_; refine wa_cons ?_; refine we_c ?_; refine wa_nil ?_)
          refine ⟨2, rfl, by decide, by decide, fun d d0 d1 => ?_⟩
          (refine we_c ?_; refine ot_eq rfl ?_; refine ⟨_, rfl, ?_⟩)
          refine ⟨fun _ => ?_, fun _ => ?_⟩
          · (refine we_call ?_; refine wa_cons ?_; refine we_var rfl ?_; refine wa_cons ?_; refine we_op ?_; refine we_c ?_; refine we_var rfl ?_; refine ot_I0 ?_; refine wa_nil ?_)
            exact ⟨_, rfl, by omega, by omega, fun d d0 d1 => ⟨d, rfl, d0, by omega⟩⟩
          · (refine we_c ?_; refine ⟨_, rfl, ?_⟩)
            exact ⟨by decide, by decide⟩
      · (refine wa_nil ?_; refine ct_tuple ?_)
        refine ws_cutEx (fun a : { ys : List Int // In (bq 60) ys } => [.im (rHand P w), .im (rInt (most : Int)), .im (rInt kd), .im (rDI P w K m), .im (rInt (n : Int)), .no, .im (rKey K a.1), .no, .no]) ?_ fun ⟨ys, hin⟩ => ?_
        · refine ws_if ?_
          (refine wt_test ?_; refine we_op ?_; refine we_var rfl ?_; refine we_c ?_; refine ot_eq rfl ?_; refine ⟨_, rfl, ?_⟩)
          rw [dec_int]
          refine ⟨fun _ => ?_, fun _ => ?_⟩
          · refine ws_asg ?_
            ((first | refine we_cb ?_ | refine we_xlen ?_); refine wa_cons ?_; refine we_frzL ?_)
            refine wl_lcN (List.range 4) (g := fun j => rInt (j : Int)) (h := rInt) (fun _ y => 0 ≤ y ∧ y ≤ ((60 : Nat) : Int)) ?_
            (refine wi_rng1 ?_; refine wa_cons ?_; refine we_c ?_; refine wa_nil ?_; refine ⟨_, rfl, ?_⟩)
            refine ⟨by decide, by decide, rfl, fun j hj => by rw [List.getElem_range], by decide, fun j hj G' st' => ?_, fun zs hq => ?_⟩
            · refine ⟨_, _, ?_, wg_name, ?_⟩
              · intro j hj; exact hj
              · (refine we_call ?_; refine wa_cons ?_; refine we_var rfl ?_; refine wa_cons ?_; (refine we_frzL ?_; refine wl_lst ?_); refine wa_cons ?_; refine we_c ?_; refine wa_cons ?_; refine we_c ?_; refine wa_cons ?_; refine we_c ?_; refine wa_cons ?_; refine we_c ?_; refine wa_cons ?_; refine we_c ?_; refine wa_nil ?_; refine ⟨Nat.le_of_ble_eq_true rfl, ?_⟩; refine wa_nil ?_)
                refine ⟨_, rfl, by decide, by decide, fun r hr => ?_⟩
                simp only [List.mem_cons, List.not_mem_nil, or_false] at hr
                rcases hr with rfl | rfl | rfl | rfl | rfl
                · exact ⟨(0 : Int), rfl, ⟨by decide, by decide⟩⟩
                · exact ⟨(0 : Int), rfl, ⟨by decide, by decide⟩⟩
                · exact ⟨(1 : Int), rfl, ⟨by decide, by decide⟩⟩
                · exact ⟨(20 : Int), rfl, ⟨by decide, by decide⟩⟩
                · exact ⟨(60 : Int), rfl, ⟨by decide, by decide⟩⟩
            · (refine wa_nil ?_; refine ct_tuple ?_)
              exact fun σ H E => ⟨⟨zs, in_box hq⟩, E.wk (by (repeat' (first | exact Weak.nil | apply Weak.eq | apply Weak.no)))⟩
          · exact fun σ H E => ⟨⟨ys, in_box hp⟩, E.wk (by (repeat' (first | exact Weak.nil | apply Weak.eq | apply Weak.no)))⟩
        · refine ws_asg ?_
          (refine we_call ?_; refine wa_cons ?_; refine we_var rfl ?_; refine wa_cons ?_; (refine we_frzL ?_; refine wl_lst ?_); refine wa_cons ?_; refine we_c ?_; refine wa_cons ?_; refine we_un ?_; refine we_c ?_; refine ut_I ?_; refine wa_cons ?_; refine we_c ?_; refine wa_cons ?_; refine we_un ?_; refine we_c ?_; refine ut_I ?_; refine wa_cons ?_; refine we_c ?_; refine wa_cons ?_; refine we_c ?_; refine wa_nil ?_; refine ⟨Nat.le_of_ble_eq_true rfl, ?_⟩; refine wa_nil ?_)
          refine ⟨_, rfl, by decide, by decide, fun r hr => ?_⟩
          obtain ⟨c, rfl, hc, hc0⟩ : ∃ c : Int, r = rInt c ∧ c.natAbs ≤ 12 ∧ c ≠ 0 := by
            simp only [List.mem_cons, List.not_mem_nil, or_false] at hr
            rcases hr with rfl | rfl | rfl | rfl | rfl | rfl
            · exact ⟨1, rfl, by decide, by decide⟩
            · exact ⟨-1, rfl, by decide, by decide⟩
            · exact ⟨2, rfl, by decide, by decide⟩
            · exact ⟨-3, rfl, by decide, by decide⟩
            · exact ⟨7, rfl, by decide, by decide⟩
            · exact ⟨12, rfl, by decide, by decide⟩
          refine ws_cutEx (fun a : { c : Int // c.natAbs ≤ 2 ^ 99 ∧ c ≠ 0 } => [.im (rHand P w), .im (rInt (most : Int)), .im (rInt kd), .im (rDI P w K m), .im (rInt (n : Int)), .no, .im (rKey K ys), .im (rInt a.1), .no]) ?_ fun ⟨c, hc, hc0⟩ => ?_
          · refine ws_if ?_
            (refine wt_test ?_; refine we_op ?_; refine we_var rfl ?_; refine we_c ?_; refine ot_eq rfl ?_; refine ⟨_, rfl, ?_⟩)
            rw [dec_int]
            refine ⟨fun _ => ?_, fun _ => ?_⟩
            · refine ws_asg ?_
              (refine we_op ?_; refine we_op ?_; refine we_var rfl ?_; refine we_op ?_; refine we_c ?_; refine we_c ?_; refine ot_I ?_ ?_)
              · unfold CPow; decide
              have e10 : (10 : Int) ^ Int.toNat 27 = 1000000000000000000000000000 := by decide
              rw [e10]
              (refine ot_I ?_ ?_)
              · exact wide_mul (a := 10) (b := 100) (Nat.lt_of_le_of_lt hc (by decide)) (by decide) (by decide) (by decide) (by decide)
              (refine we_call ?_; refine wa_cons ?_; refine we_var rfl ?_; refine wa_cons ?_; refine we_c ?_; refine wa_nil ?_)
              refine ⟨1000, rfl, by decide, by decide, fun d d0 d1 => ?_⟩
              (refine ot_I0 ?_)
              exact fun σ H E => ⟨⟨c * 1000000000000000000000000000 + d, Nat.le_trans (show _ ≤ 13000000000000000000000000000 by omega) (by decide), by omega⟩, E.wk (by (repeat' (first | exact Weak.nil | apply Weak.eq | apply Weak.no)))⟩
            · exact fun σ H E => ⟨⟨c, Nat.le_trans hc (by decide), hc0⟩, E.wk (by (repeat' (first | exact Weak.nil | apply Weak.eq | apply Weak.no)))⟩
          · have h1 := lb_one hin hc0
            have hS := (hI.sum h1 (s := 1) (by decide)).1
            ((first | refine ws_asg ?_ | refine ws_asgG ?_); refine we_call ?_; refine wa_cons ?_; refine we_var rfl ?_; refine wa_cons ?_; (refine we_frzX ?_; refine wx_xdisp ?_); (first | refine wp_cons ?_ | refine wp_nil ?_); refine we_var rfl ?_; refine ⟨_, rfl, ?_⟩; refine we_var rfl ?_; (first | refine wp_cons ?_ | refine wp_nil ?_); refine ⟨Nat.le_of_ble_eq_true rfl, ?_⟩; refine wa_cons ?_; refine we_c ?_; refine wa_nil ?_)
            refine ⟨m, [(ys, c)], 1, 450000, rfl, hI.tb, h1.tb, (by show m.length + 1 ≤ _; omega), by decide, bdP_of h1.l (Nat.lt_of_le_of_lt hc (small_lt (by decide))), by decide, by decide, ?_⟩
            skip
            exact ws_nextI rfl _ ⟨hS.mono (B4.le.refl _) (by rw [Nat.succ_mul]; exact Nat.add_le_add_left (Nat.le_trans hc (by decide)) _), Nat.le_trans (nz_len _) (Nat.le_trans (sumP_len ..) (Nat.add_le_add_right hlen 1))⟩ (by (repeat' (first | exact Weak.nil | apply Weak.eq | apply Weak.no)))
    · (refine ws_retS (by assumption) ?_; refine we_var rfl ?_)
      exact hk _ (hI.mono (B4.le.refl _) (by have := Nat.mul_le_mul_right (2 ^ 100) (show (n : Int).toNat ≤ 40 by omega); exact Nat.le_trans this (by decide))) (by omega)
end Lw
set_option Elab.async false
set_option linter.all false
set_option maxRecDepth 100000
set_option maxHeartbeats 2000000
namespace Lw
open PySem PySem.Spec PyProof.Rows L2 BX
theorem bq_at (n : Nat) {j : Nat} (hj : j < 4) : (bq n).at j = n := by
  match j, hj with
  | 0, _ => rfl
  | 1, _ => rfl
  | 2, _ => rfl
  | 3, _ => rfl
theorem can_num (n : Int) : canon [([0, 0, 0, 0], n)] = canon (numP n) := by
  unfold numP
  by_cases h : n = 0
  · rw [if_pos h, h]
    decide +kernel
  · rw [if_neg h]
theorem SmOk.neg {m : PT} (h : SmOk m) : SmOk (nz (mulP m (numP (-1)))) := by
  have hn := lb_one (b := ⟨0, 0, 0, 0⟩) (c := -1) (p := [0, 0, 0, 0]) ⟨0, 0, 0, 0, rfl, Nat.zero_le _, Nat.zero_le _, Nat.zero_le _, Nat.zero_le _⟩ (by decide)
  have e : numP (-1) = [([0, 0, 0, 0], -1)] := rfl
  rw [e]
  refine ⟨(h.lb.mul hn).1.mono (le_at fun j hj => ?_) (by decide), Nat.le_trans (mul_len _ _) (by have := h.len; show m.length * 1 ≤ 40; omega)⟩
  rw [at_add]
  have : (⟨0, 0, 0, 0⟩ : B4).at j = 0 := by
    match j, hj with
    | 0, _ => rfl
    | 1, _ => rfl
    | 2, _ => rfl
    | 3, _ => rfl
  omega
def S_law (P : Program) (w : World) (K : PySem.W.Frag) : Spc := fun rs k => ∃ ns : List Int, rs = [rScr K ns] ∧ ns.length ≤ sizeLine ∧ k (rBl true)
theorem ok_law {P : Program} {w : World} {K : PySem.W.Frag} {mg : Str → Option Value} {base : Heap} {f : Addr} {fd fd_L_is_poly fd_unknown_poly fd_L_var fd_number_poly fd_L_num fd_L_any fd_L_draw fd_L_is_worth_right fd_L_are_parts_right fd_L_are_sums_right fd_L_times fd_L_some fd_L_are_great_right fd_L_hand : FuncData} (T : Txt K mg) (F : FunD K "law" "law" (defArgs s_law) (defBody s_law) (defScope s_law) [] [] f fd) (c_L_is_poly : Callee P w K mg base (He.ga K "_law_is_poly") fd_L_is_poly ["_law_told", "_law_due"] 1 (spOf (S_L_is_poly P w K))) (c_unknown_poly : Callee P w K mg base (He.ga K "unknown_poly") fd_unknown_poly ["k"] 5 (spOf (S_unknown_poly P w K))) (c_L_var : Callee P w K mg base (He.ga K "_law_var") fd_L_var ["_law_k"] 1 (spOf (S_L_var P w K))) (c_number_poly : Callee P w K mg base (He.ga K "number_poly") fd_number_poly ["number"] 5 (spOf (S_number_poly P w K))) (c_L_num : Callee P w K mg base (He.ga K "_law_num") fd_L_num ["_law_number"] 1 (spOf (S_L_num P w K))) (c_L_any : Callee P w K mg base (He.ga K "_law_any") fd_L_any ["_law_hand_here", "_law_things"] 2 (spOf (S_L_any P w K))) (c_L_draw : Callee P w K mg base (He.ga K "_law_draw") fd_L_draw ["_law_hand_here", "_law_many"] 1 (spOf (S_L_draw P w K))) (c_L_is_worth_right : Callee P w K mg base (He.ga K "_law_is_worth_right") fd_L_is_worth_right ["_law_hand_here", "_law_one", "_law_other"] 45 (spOf (S_L_is_worth_right P w K))) (c_L_are_parts_right : Callee P w K mg base (He.ga K "_law_are_parts_right") fd_L_are_parts_right ["_law_hand_here", "_law_one"] 7 (spOf (S_L_are_parts_right P w K))) (c_L_are_sums_right : Callee P w K mg base (He.ga K "_law_are_sums_right") fd_L_are_sums_right ["_law_hand_here", "_law_one", "_law_other"] 7 (spOf (S_L_are_sums_right P w K))) (c_L_times : Callee P w K mg base (He.ga K "_law_times") fd_L_times ["_law_one", "_law_other"] 1 (spOf (S_L_times P w K))) (c_L_some : Callee P w K mg base (He.ga K "_law_some") fd_L_some ["_law_hand_here", "_law_most"] 3 (spOf (S_L_some2 P w K))) (c_L_are_great_right : Callee P w K mg base (He.ga K "_law_are_great_right") fd_L_are_great_right ["_law_hand_here"] 46 (spOf (S_L_are_great_right P w K))) (c_L_hand : Callee P w K mg base (He.ga K "_law_hand") fd_L_hand ["_law_script"] 1 (spOf (S_L_hand P w K))) (pP : PolyC K (CP K)) (pR : PolyC K (CR K)) :
    FnOk P w K mg base CX0 47 f fd ["_law_script"] (spOf (S_law P w K)) := by
  refine F.ok sc_law (len_of (by intro rs k h; first | (obtain ⟨e, _⟩ := h; subst e; exact rfl) | (obtain ⟨_, e, _⟩ := h; subst e; exact rfl) | (obtain ⟨_, _, e, _⟩ := h; subst e; exact rfl) | (obtain ⟨_, _, _, e, _⟩ := h; subst e; exact rfl) | (obtain ⟨_, _, _, _, e, _⟩ := h; subst e; exact rfl) | (obtain ⟨_, _, _, _, _, e, _⟩ := h; subst e; exact rfl) | (obtain ⟨_, _, _, _, _, _, e, _⟩ := h; subst e; exact rfl) | (obtain ⟨_, _, _, _, _, _, _, e, _⟩ := h; subst e; exact rfl) | (obtain ⟨_, _, _, _, _, _, _, _, e, _⟩ := h; subst e; exact rfl) | (obtain ⟨_, _, _, _, _, _, _, _, _, e, _⟩ := h; subst e; exact rfl) | (obtain ⟨_, _, _, _, _, _, _, _, _, _, e, _⟩ := h; subst e; exact rfl) | (obtain ⟨_, _, _, _, _, _, _, _, _, _, _, e, _⟩ := h; subst e; exact rfl) | (obtain ⟨_, _, _, _, _, _, _, _, _, _, _, _, e, _⟩ := h; subst e; exact rfl))) (fun cdv A outer s H vs Q E hr h => ?_)
  
  refine ⟨_, PSs.nox (pss_cons (ps_set (i := 1) sc_law.nd rfl (by first | exact Or.inl rfl | exact Or.inr rfl) (pe_call (c_L_hand.F.mono (by decide)) hr rfl T.g_L_hand c_L_hand.kp c_L_hand.b .nil pass0 (pa_cons (pv 0) pa_nil))) (pss_cut (ps_if (PW.pt (pw_and (pt_cmpR op_eq (pe_call (c_L_draw.F.mono (by decide)) hr rfl T.g_L_draw c_L_draw.kp c_L_draw.b .nil pass0 (pa_cons (pv 1) (pa_cons pe_int pa_nil))) pe_int (nomark _)) (pw_and1 (pt_not (pt_val (pe_call (c_L_are_great_right.F.mono (by decide)) hr rfl T.g_L_are_great_right c_L_are_great_right.kp c_L_are_great_right.b .nil pass0 (pa_cons (pv 1) pa_nil))))))) (pss_cons (ps_ret pe_bl) pss_nil) pss_nil) (pss_cons (ps_for PassesOwn.never rfl (pi_range1 rfl T.b_range (pa_cons pe_int pa_nil)) (pg_name (i := 2) sc_law.nd rfl (by first | exact Or.inl rfl | exact Or.inr rfl)) (pss_cons (ps_par (i := 3) (j := 4) (by rfl) sc_law.nd rfl rfl (by decide) rfl rfl (pa_cons (pe_call (c_L_some.F.mono (by decide)) hr rfl T.g_L_some c_L_some.kp c_L_some.b .nil pass0 (pa_cons (pv 1) (pa_cons pe_int pa_nil))) (pa_cons (pe_call (c_L_some.F.mono (by decide)) hr rfl T.g_L_some c_L_some.kp c_L_some.b .nil pass0 (pa_cons (pv 1) (pa_cons pe_int pa_nil))) pa_nil)) (by rfl)) (pss_cut (ps_set (i := 4) sc_law.nd rfl (by first | exact Or.inl rfl | exact Or.inr rfl) (pe_call (c_L_any.F.mono (by decide)) hr rfl T.g_L_any c_L_any.kp c_L_any.b .nil pass0 (pa_cons (pv 1) (pa_cons (pe_frz (pe_lst (pa_cons (pv 4) (pa_cons (pv 4) (pa_cons (pv 4) (pa_cons (pv 3) (pa_cons (pe_call (c_L_times.F.mono (by decide)) hr rfl T.g_L_times c_L_times.kp c_L_times.b .nil pass0 (pa_cons (pv 3) (pa_cons (pe_call (c_L_num.F.mono (by decide)) hr rfl T.g_L_num c_L_num.kp c_L_num.b .nil pass0 (pa_cons (pe_un un_neg pe_int) pa_nil)) pa_nil))) pa_nil))))))) pa_nil)))) (pss_cons (ps_if (PW.pt (pw_or (pt_not (pt_val (pe_call (c_L_are_sums_right.F.mono (by decide)) hr rfl T.g_L_are_sums_right c_L_are_sums_right.kp c_L_are_sums_right.b .nil pass0 (pa_cons (pv 1) (pa_cons (pv 3) (pa_cons (pv 4) pa_nil)))))) (pw_or1 (pt_not (pt_val (pe_call (c_L_are_parts_right.F.mono (by decide)) hr rfl T.g_L_are_parts_right c_L_are_parts_right.kp c_L_are_parts_right.b .nil pass0 (pa_cons (pv 1) (pa_cons (pv 3) pa_nil)))))))) (pss_cons (ps_ret pe_bl) pss_nil) pss_nil) (pss_cut (ps_if (pt_not (pt_val (pe_call (c_L_is_worth_right.F.mono (by decide)) hr rfl T.g_L_is_worth_right c_L_is_worth_right.kp c_L_is_worth_right.b .nil pass0 (pa_cons (pv 1) (pa_cons (pv 3) (pa_cons (pv 4) pa_nil)))))) (pss_cons (ps_ret pe_bl) pss_nil) pss_nil) (pss_cut (ps_par (i := 5) (j := 6) (by rfl) sc_law.nd rfl rfl (by decide) rfl rfl (pa_cons (pe_call (c_L_any.F.mono (by decide)) hr rfl T.g_L_any c_L_any.kp c_L_any.b .nil pass0 (pa_cons (pv 1) (pa_cons (pe_frz (pe_lst (pa_cons pe_int (pa_cons pe_int (pa_cons (pe_un un_neg pe_int) (pa_cons (pe_call (c_L_draw.F.mono (by decide)) hr rfl T.g_L_draw c_L_draw.kp c_L_draw.b .nil pass0 (pa_cons (pv 1) (pa_cons pe_int pa_nil))) (pa_cons (pe_un un_neg (pe_op op_pow pe_int pe_int)) (pa_cons (pe_op op_pow pe_int pe_int) pa_nil)))))))) pa_nil))) (pa_cons (pe_call (c_L_draw.F.mono (by decide)) hr rfl T.g_L_draw c_L_draw.kp c_L_draw.b .nil pass0 (pa_cons (pv 1) (pa_cons pe_int pa_nil))) pa_nil)) (by rfl)) (pss_cons (ps_if (PW.pt (pw_or (pt_not (pt_val (pe_call (c_L_is_poly.F.mono (by decide)) hr rfl T.g_L_is_poly c_L_is_poly.kp c_L_is_poly.b .nil pass0 (pa_cons (pe_call (c_number_poly.F.mono (by decide)) hr rfl T.g_number_poly c_number_poly.kp c_number_poly.b .nil pass0 (pa_cons (pv 5) pa_nil)) (pa_cons (pe_call (c_L_num.F.mono (by decide)) hr rfl T.g_L_num c_L_num.kp c_L_num.b .nil pass0 (pa_cons (pv 5) pa_nil)) pa_nil))))) (pw_or1 (pt_not (pt_val (pe_call (c_L_is_poly.F.mono (by decide)) hr rfl T.g_L_is_poly c_L_is_poly.kp c_L_is_poly.b .nil pass0 (pa_cons (pe_call (c_unknown_poly.F.mono (by decide)) hr rfl T.g_unknown_poly c_unknown_poly.kp c_unknown_poly.b .nil pass0 (pa_cons (pv 6) pa_nil)) (pa_cons (pe_call (c_L_var.F.mono (by decide)) hr rfl T.g_L_var c_L_var.kp c_L_var.b .nil pass0 (pa_cons (pv 6) pa_nil)) pa_nil)))))))) (pss_cons (ps_ret pe_bl) pss_nil) pss_nil) pss_nil))))))) (pss_cons (ps_ret pe_bl) pss_nil)))), ?_⟩
  refine read_of P w K h rfl fun rs k D hs hD hN => ?_
  obtain ⟨ns, rfl, hz, hk⟩ := hs
  ((first | refine ws_asg ?_ | refine ws_asgG ?_); refine we_call ?_; refine wa_cons ?_; refine we_var rfl ?_; refine wa_nil ?_)
  refine ⟨ns, rfl, hz, ?_⟩
  skip
  refine ws_cut [.im (rScr K ns), .im (rHand P w), .no, .no, .no, .no, .no] ?_ ?_
  · refine ws_if1 ?_
    (refine wt_and ?_; refine wt_test ?_; refine we_op ?_; refine we_call ?_; refine wa_cons ?_; refine we_var rfl ?_; refine wa_cons ?_; refine we_c ?_; refine wa_nil ?_)
    refine ⟨5, rfl, by decide, by decide, fun d d0 d1 => ?_⟩
    (refine we_c ?_; refine ot_eq rfl ?_; refine ⟨_, rfl, ?_⟩)
    refine ⟨fun _ => ?_, fun _ => ?_⟩
    · (refine wt_not ?_; refine wt_B ?_; refine we_call ?_; refine wa_cons ?_; refine we_var rfl ?_; refine wa_nil ?_)
      refine ⟨rfl, ?_⟩
      (refine ⟨_, rfl, ?_⟩; refine ⟨fun z => Bool.noConfusion (show true = false from by first | exact z | exact z.symm), fun _ => ?_⟩)
      exact ws_nextW rfl (by (repeat' (first | exact Weak.nil | apply Weak.eq | apply Weak.no)))
    · (refine ⟨fun z => Bool.noConfusion (show true = false from by first | exact z | exact z.symm), fun _ => ?_⟩)
      exact ws_nextW rfl (by (repeat' (first | exact Weak.nil | apply Weak.eq | apply Weak.no)))
  refine ws_forQ (fun _ (_ : Unit) => True) () (fun _ => [.im (rScr K ns), .im (rHand P w), .no, .no, .no, .no, .no]) ?_
  (refine wi_rng1 ?_; refine wa_cons ?_; refine we_c ?_; refine wa_nil ?_; refine ⟨_, rfl, ?_⟩)
  refine ⟨by decide, by decide, by (repeat' (first | exact Weak.nil | apply Weak.eq | apply Weak.no)), trivial, fun j hj s hI G st => ?_, fun s hI => ?_⟩
  · refine ⟨_, _, wg_name, ?_⟩
    (refine ws_par ?_; refine wa_cons ?_; refine we_call ?_; refine wa_cons ?_; refine we_var rfl ?_; refine wa_cons ?_; refine we_c ?_; refine wa_nil ?_)
    refine ⟨3, rfl, by decide, fun m0 hm0 hl0 => ?_⟩
    (refine wa_cons ?_; refine we_call ?_; refine wa_cons ?_; refine we_var rfl ?_; refine wa_cons ?_; refine we_c ?_; refine wa_nil ?_)
    refine ⟨3, rfl, by decide, fun m1 hm1 hl1 => ?_⟩
    (refine wa_nil ?_)
    refine ⟨_, _, rfl, ?_⟩
    have s0 : SmOk m0 := ⟨hm0, hl0⟩
    have s1 : SmOk m1 := ⟨hm1, hl1⟩
    skip
    refine ws_cutEx (fun a : { m : PT // SmOk m } => [.im (rScr K ns), .im (rHand P w), .no, .im (rDI P w K m0), .im (rDI P w K a.1), .no, .no]) ?_ fun a => ?_
    · refine ws_one ?_
      ((first | refine ws_asg ?_ | refine ws_asgG ?_); refine we_call ?_; refine wa_cons ?_; refine we_var rfl ?_; refine wa_cons ?_; (refine we_frzL ?_; refine wl_lst ?_); refine wa_cons ?_; refine we_var rfl ?_; refine wa_cons ?_; refine we_var rfl ?_; refine wa_cons ?_; refine we_var rfl ?_; refine wa_cons ?_; refine we_var rfl ?_; refine wa_cons ?_; refine we_call ?_; refine wa_cons ?_; refine we_var rfl ?_; refine wa_cons ?_; refine we_call ?_; refine wa_cons ?_; refine we_un ?_; refine we_c ?_; refine ut_I ?_; refine wa_nil ?_)
      refine ⟨-1, rfl, ?_⟩
      (refine wa_nil ?_)
      have hn := lb_one (b := ⟨0, 0, 0, 0⟩) (c := -1) (p := [0, 0, 0, 0]) ⟨0, 0, 0, 0, rfl, Nat.zero_le _, Nat.zero_le _, Nat.zero_le _, Nat.zero_le _⟩ (by decide)
      refine ltimes_len hm0 (show LB _ _ (numP (-1)) from hn) (by show m0.length * 1 ≤ _; omega) (small_lt (by decide)) (small_lt (by decide)) ?_
      (refine wa_nil ?_; refine ⟨Nat.le_of_ble_eq_true rfl, ?_⟩; refine wa_nil ?_)
      refine ⟨_, rfl, Nat.le_of_ble_eq_true rfl, Nat.le_of_ble_eq_true rfl, fun r hr => ?_⟩
      obtain ⟨m2, rfl, hm2⟩ : ∃ m2 : PT, r = rDI P w K m2 ∧ SmOk m2 := by
        simp only [List.mem_cons, List.not_mem_nil, or_false] at hr
        rcases hr with rfl | rfl | rfl | rfl | rfl
        · exact ⟨m1, rfl, s1⟩
        · exact ⟨m1, rfl, s1⟩
        · exact ⟨m1, rfl, s1⟩
        · exact ⟨m0, rfl, s0⟩
        · exact ⟨_, rfl, s0.neg⟩
      skip
      exact ws_nextX rfl ⟨m2, hm2⟩ (by (repeat' (first | exact Weak.nil | apply Weak.eq | apply Weak.no)))
    have hm2 := a.2
    obtain ⟨m2, e2⟩ : ∃ m, a.1 = m := ⟨_, rfl⟩
    rw [e2] at hm2
    rw [e2]
    (refine ws_if ?_; refine wt_or ?_; refine wt_not ?_; refine wt_B ?_; refine we_call ?_; refine wa_cons ?_; refine we_var rfl ?_; refine wa_cons ?_; refine we_var rfl ?_; refine wa_cons ?_; refine we_var rfl ?_; refine wa_nil ?_)
    refine ⟨⟨(m0, m2), s0, hm2⟩, rfl, ?_⟩
    (refine ⟨_, rfl, ?_⟩; refine ⟨fun z => Bool.noConfusion (show true = false from by first | exact z | exact z.symm), fun _ => ?_⟩; refine wt_not ?_; refine wt_B ?_; refine we_call ?_; refine wa_cons ?_; refine we_var rfl ?_; refine wa_cons ?_; refine we_var rfl ?_; refine wa_nil ?_)
    refine ⟨m0, rfl, s0, ?_⟩
    (refine ⟨_, rfl, ?_⟩; refine ⟨fun z => Bool.noConfusion (show true = false from by first | exact z | exact z.symm), fun _ => ?_⟩)
    refine ws_thru ?_
    refine ws_cut [.im (rScr K ns), .im (rHand P w), .no, .no, .no, .no, .no] ?_ ?_
    · refine ws_one ?_
      (refine ws_if ?_; refine wt_not ?_; refine wt_B ?_; refine we_call ?_; refine wa_cons ?_; refine we_var rfl ?_; refine wa_cons ?_; refine we_var rfl ?_; refine wa_cons ?_; refine we_var rfl ?_; refine wa_nil ?_)
      refine ⟨⟨(m0, m2), s0, hm2⟩, rfl, ?_⟩
      (refine ⟨_, rfl, ?_⟩; refine ⟨fun z => Bool.noConfusion (show true = false from by first | exact z | exact z.symm), fun _ => ?_⟩)
      exact ws_nextW rfl (by (repeat' (first | exact Weak.nil | apply Weak.eq | apply Weak.no)))
    refine ws_cutEx (fun a : { p : Int × Nat // p.2 < 4 } => [.im (rScr K ns), .im (rHand P w), .no, .no, .no, .im (rInt a.1.1), .im (rInt (a.1.2 : Int))]) ?_ fun a => ?_
    · refine ws_one ?_
      (refine ws_par ?_; refine wa_cons ?_; refine we_call ?_; refine wa_cons ?_; refine we_var rfl ?_; refine wa_cons ?_; (refine we_frzL ?_; refine wl_lst ?_); refine wa_cons ?_; refine we_c ?_; refine wa_cons ?_; refine we_c ?_; refine wa_cons ?_; refine we_un ?_; refine we_c ?_; refine ut_I ?_; refine wa_cons ?_; refine we_call ?_; refine wa_cons ?_; refine we_var rfl ?_; refine wa_cons ?_; refine we_c ?_; refine wa_nil ?_)
      refine ⟨1000, rfl, by decide, by decide, fun d d0 d1 => ?_⟩
      (refine wa_cons ?_; refine we_un ?_; refine we_op ?_; refine we_c ?_; refine we_c ?_; refine ot_I ?_ ?_)
      · unfold CPow; decide
      (refine ut_I ?_; refine wa_cons ?_; refine we_op ?_; refine we_c ?_; refine we_c ?_; refine ot_I ?_ ?_)
      · unfold CPow; decide
      (refine wa_nil ?_; refine ⟨Nat.le_of_ble_eq_true rfl, ?_⟩; refine wa_nil ?_)
      refine ⟨_, rfl, Nat.le_of_ble_eq_true rfl, Nat.le_of_ble_eq_true rfl, fun r hr => ?_⟩
      obtain ⟨n, rfl⟩ : ∃ n : Int, r = rInt n := by
        simp only [List.mem_cons, List.not_mem_nil, or_false] at hr
        rcases hr with rfl | rfl | rfl | rfl | rfl | rfl
        · exact ⟨_, rfl⟩
        · exact ⟨_, rfl⟩
        · exact ⟨_, rfl⟩
        · exact ⟨_, rfl⟩
        · exact ⟨_, rfl⟩
        · exact ⟨_, rfl⟩
      (refine wa_cons ?_; refine we_call ?_; refine wa_cons ?_; refine we_var rfl ?_; refine wa_cons ?_; refine we_c ?_; refine wa_nil ?_)
      refine ⟨4, rfl, by decide, by decide, fun x hx0 hx => ?_⟩
      obtain ⟨x, rfl⟩ := Int.eq_ofNat_of_zero_le hx0
      (refine wa_nil ?_)
      refine ⟨_, _, rfl, ?_⟩
      exact ws_nextX rfl ⟨(n, x), by show x < 4; omega⟩ (by (repeat' (first | exact Weak.nil | apply Weak.eq | apply Weak.no)))
    have hx4 := a.2
    obtain ⟨n, en⟩ : ∃ n, a.1.1 = n := ⟨_, rfl⟩
    obtain ⟨x, ex⟩ : ∃ x, a.1.2 = x := ⟨_, rfl⟩
    rw [ex] at hx4
    rw [en, ex]
    (refine ws_if ?_; refine wt_or ?_; refine wt_not ?_; refine wt_B ?_; refine we_call ?_; refine wa_cons ?_; refine we_call ?_; refine wa_cons ?_; refine we_var rfl ?_; refine wa_nil ?_)
    refine ⟨n, rfl, ?_⟩
    (refine wa_cons ?_; refine we_call ?_; refine wa_cons ?_; refine we_var rfl ?_; refine wa_nil ?_)
    refine ⟨n, rfl, ?_⟩
    rw [can_num]
    (refine wa_nil ?_)
    refine ⟨CR K, numP n, ⟨0, 0, 0, 0⟩, _, rfl, pR, pb_num n _, by unfold numP; split; exact Nat.zero_le _; exact Nat.le_of_ble_eq_true rfl, ?_⟩
    (refine ⟨_, rfl, ?_⟩; refine ⟨fun z => Bool.noConfusion (show true = false from by first | exact z | exact z.symm), fun _ => ?_⟩; refine wt_not ?_; refine wt_B ?_; refine we_call ?_; refine wa_cons ?_; refine we_call ?_; refine wa_cons ?_; refine we_var rfl ?_; refine wa_nil ?_)
    refine ⟨x, rfl, hx4, ?_⟩
    (refine wa_cons ?_; refine we_call ?_; refine wa_cons ?_; refine we_var rfl ?_; refine wa_nil ?_)
    refine ⟨x, rfl, ?_⟩
    (refine wa_nil ?_)
    refine ⟨CR K, upP x 1, _, _, rfl, pR, (pb_up hx4 1).lb, Nat.le_of_ble_eq_true rfl, ?_⟩
    (refine ⟨_, rfl, ?_⟩; refine ⟨fun z => Bool.noConfusion (show true = false from by first | exact z | exact z.symm), fun _ => ?_⟩)
    exact ws_nextI rfl () trivial (by (repeat' (first | exact Weak.nil | apply Weak.eq | apply Weak.no)))
  · (refine ws_retS (by assumption) ?_; refine we_c ?_)
    exact hk
end Lw
set_option Elab.async false
set_option linter.all false
set_option maxRecDepth 100000
set_option maxHeartbeats 1000000
namespace Lw
open PySem PySem.Spec PyProof.Rows L2 BX
def d_is_integer : He.DefD := ⟨("is_integer", none), "is_integer", "is_integer", defArgs s_is_integer, defBody s_is_integer, defScope s_is_integer, [], []⟩
def d_is_within : He.DefD := ⟨("is_within", none), "is_within", "is_within", defArgs s_is_within, defBody s_is_within, defScope s_is_within, [], []⟩
def d_check_number : He.DefD := ⟨("check_number", none), "check_number", "check_number", defArgs s_check_number, defBody s_check_number, defScope s_check_number, [], []⟩
def d_check_unknown : He.DefD := ⟨("check_unknown", none), "check_unknown", "check_unknown", defArgs s_check_unknown, defBody s_check_unknown, defScope s_check_unknown, [], []⟩
def d_check_integer : He.DefD := ⟨("check_integer", none), "check_integer", "check_integer", defArgs s_check_integer, defBody s_check_integer, defScope s_check_integer, [], []⟩
def d_divisor_of : He.DefD := ⟨("divisor_of", none), "divisor_of", "divisor_of", defArgs s_divisor_of, defBody s_divisor_of, defScope s_divisor_of, [], []⟩
def d_fraction : He.DefD := ⟨("fraction", none), "fraction", "fraction", defArgs s_fraction, defBody s_fraction, defScope s_fraction, [], []⟩
def d_is_fraction : He.DefD := ⟨("is_fraction", none), "is_fraction", "is_fraction", defArgs s_is_fraction, defBody s_is_fraction, defScope s_is_fraction, [], []⟩
def d_added : He.DefD := ⟨("added", none), "added", "added", defArgs s_added, defBody s_added, defScope s_added, [], []⟩
def d_multiplied : He.DefD := ⟨("multiplied", none), "multiplied", "multiplied", defArgs s_multiplied, defBody s_multiplied, defScope s_multiplied, [], []⟩
def d_raised : He.DefD := ⟨("raised", none), "raised", "raised", defArgs s_raised, defBody s_raised, defScope s_raised, [], []⟩
def d_is_term : He.DefD := ⟨("is_term", none), "is_term", "is_term", defArgs s_is_term, defBody s_is_term, defScope s_is_term, [], []⟩
def d_Poly_init : He.DefD := ⟨("Poly", some "__init__"), "__init__", "Poly.__init__", defArgs s_Poly_init, defBody s_Poly_init, defScope s_Poly_init, [], []⟩
def d_Poly_eq : He.DefD := ⟨("Poly", some "__eq__"), "__eq__", "Poly.__eq__", defArgs s_Poly_eq, defBody s_Poly_eq, defScope s_Poly_eq, [], []⟩
def d_RawPoly_init : He.DefD := ⟨("RawPoly", some "__init__"), "__init__", "RawPoly.__init__", defArgs s_RawPoly_init, defBody s_RawPoly_init, defScope s_RawPoly_init, [], []⟩
def d_poly_from : He.DefD := ⟨("poly_from", none), "poly_from", "poly_from", defArgs s_poly_from, defBody s_poly_from, defScope s_poly_from, [], []⟩
def d_constant : He.DefD := ⟨("constant", none), "constant", "constant", defArgs s_constant, defBody s_constant, defScope s_constant, [], []⟩
def d_number_poly : He.DefD := ⟨("number_poly", none), "number_poly", "number_poly", defArgs s_number_poly, defBody s_number_poly, defScope s_number_poly, [], []⟩
def d_powers_of : He.DefD := ⟨("powers_of", none), "powers_of", "powers_of", defArgs s_powers_of, defBody s_powers_of, defScope s_powers_of, [], []⟩
def d_unknown_power : He.DefD := ⟨("unknown_power", none), "unknown_power", "unknown_power", defArgs s_unknown_power, defBody s_unknown_power, defScope s_unknown_power, [], []⟩
def d_unknown_poly : He.DefD := ⟨("unknown_poly", none), "unknown_poly", "unknown_poly", defArgs s_unknown_poly, defBody s_unknown_poly, defScope s_unknown_poly, [], []⟩
def d_sum_with : He.DefD := ⟨("sum_with", none), "sum_with", "sum_with", defArgs s_sum_with, defBody s_sum_with, defScope s_sum_with, [], []⟩
def d_plus : He.DefD := ⟨("plus", none), "plus", "plus", defArgs s_plus, defBody s_plus, defScope s_plus, [], []⟩
def d_minus : He.DefD := ⟨("minus", none), "minus", "minus", defArgs s_minus, defBody s_minus, defScope s_minus, [], []⟩
def d_times : He.DefD := ⟨("times", none), "times", "times", defArgs s_times, defBody s_times, defScope s_times, [], []⟩
def d_power_of : He.DefD := ⟨("power_of", none), "power_of", "power_of", defArgs s_power_of, defBody s_power_of, defScope s_power_of, [], []⟩
def d_power : He.DefD := ⟨("power", none), "power", "power", defArgs s_power, defBody s_power, defScope s_power, [], []⟩
def d_top : He.DefD := ⟨("top", none), "top", "top", defArgs s_top, defBody s_top, defScope s_top, [], []⟩
def d_degree_by : He.DefD := ⟨("degree_by", none), "degree_by", "degree_by", defArgs s_degree_by, defBody s_degree_by, defScope s_degree_by, [], []⟩
def d_degree : He.DefD := ⟨("degree", none), "degree", "degree", defArgs s_degree, defBody s_degree, defScope s_degree, [], []⟩
def d_without : He.DefD := ⟨("without", none), "without", "without", defArgs s_without, defBody s_without, defScope s_without, [], []⟩
def d_counts_by : He.DefD := ⟨("counts_by", none), "counts_by", "counts_by", defArgs s_counts_by, defBody s_counts_by, defScope s_counts_by, [], []⟩
def d_lead_by : He.DefD := ⟨("lead_by", none), "lead_by", "lead_by", defArgs s_lead_by, defBody s_lead_by, defScope s_lead_by, [], []⟩
def d_lead : He.DefD := ⟨("lead", none), "lead", "lead", defArgs s_lead, defBody s_lead, defScope s_lead, [], []⟩
def d_slope_by : He.DefD := ⟨("slope_by", none), "slope_by", "slope_by", defArgs s_slope_by, defBody s_slope_by, defScope s_slope_by, [], []⟩
def d_slope : He.DefD := ⟨("slope", none), "slope", "slope", defArgs s_slope, defBody s_slope, defScope s_slope, [], []⟩
def d_worth_at : He.DefD := ⟨("worth_at", none), "worth_at", "worth_at", defArgs s_worth_at, defBody s_worth_at, defScope s_worth_at, [], []⟩
def d_worth : He.DefD := ⟨("worth", none), "worth", "worth", defArgs s_worth, defBody s_worth, defScope s_worth, [], []⟩
def d_exchanged : He.DefD := ⟨("exchanged", none), "exchanged", "exchanged", defArgs s_exchanged, defBody s_exchanged, defScope s_exchanged, [], []⟩
def d_is_in : He.DefD := ⟨("is_in", none), "is_in", "is_in", defArgs s_is_in, defBody s_is_in, defScope s_is_in, [], []⟩
def d_is_poly_in : He.DefD := ⟨("is_poly_in", none), "is_poly_in", "is_poly_in", defArgs s_is_poly_in, defBody s_is_poly_in, defScope s_is_poly_in, [], []⟩
def d_check_polys : He.DefD := ⟨("check_polys", none), "check_polys", "check_polys", defArgs s_check_polys, defBody s_check_polys, defScope s_check_polys, [], []⟩
def d_System_init : He.DefD := ⟨("System", some "__init__"), "__init__", "System.__init__", defArgs s_System_init, defBody s_System_init, defScope s_System_init, [], []⟩
def d_is_point : He.DefD := ⟨("is_point", none), "is_point", "is_point", defArgs s_is_point, defBody s_is_point, defScope s_is_point, [], []⟩
def d_whole_point : He.DefD := ⟨("whole_point", none), "whole_point", "whole_point", defArgs s_whole_point, defBody s_whole_point, defScope s_whole_point, [], []⟩
def d_is_root_of : He.DefD := ⟨("is_root_of", none), "is_root_of", "is_root_of", defArgs s_is_root_of, defBody s_is_root_of, defScope s_is_root_of, [], []⟩
def d_is_root : He.DefD := ⟨("is_root", none), "is_root", "is_root", defArgs s_is_root, defBody s_is_root, defScope s_is_root, [], []⟩
def d_L_hand : He.DefD := ⟨("_law_hand", none), "_law_hand", "_law_hand", defArgs s_L_hand, defBody s_L_hand, defScope s_L_hand, [], []⟩
def d_L_draw : He.DefD := ⟨("_law_draw", none), "_law_draw", "_law_draw", defArgs s_L_draw, defBody s_L_draw, defScope s_L_draw, [], []⟩
def d_L_any : He.DefD := ⟨("_law_any", none), "_law_any", "_law_any", defArgs s_L_any, defBody s_L_any, defScope s_L_any, [], []⟩
def d_L_num : He.DefD := ⟨("_law_num", none), "_law_num", "_law_num", defArgs s_L_num, defBody s_L_num, defScope s_L_num, [], []⟩
def d_L_var : He.DefD := ⟨("_law_var", none), "_law_var", "_law_var", defArgs s_L_var, defBody s_L_var, defScope s_L_var, [], []⟩
def d_L_plus : He.DefD := ⟨("_law_plus", none), "_law_plus", "_law_plus", defArgs s_L_plus, defBody s_L_plus, defScope s_L_plus, [], []⟩
def d_L_times : He.DefD := ⟨("_law_times", none), "_law_times", "_law_times", defArgs s_L_times, defBody s_L_times, defScope s_L_times, [], []⟩
def d_L_power : He.DefD := ⟨("_law_power", none), "_law_power", "_law_power", defArgs s_L_power, defBody s_L_power, defScope s_L_power, [], []⟩
def d_L_mark : He.DefD := ⟨("_law_mark", none), "_law_mark", "_law_mark", defArgs s_L_mark, defBody s_L_mark, defScope s_L_mark, [], []⟩
def d_L_is_marked : He.DefD := ⟨("_law_is_marked", none), "_law_is_marked", "_law_is_marked", defArgs s_L_is_marked, defBody s_L_is_marked, defScope s_L_is_marked, [], []⟩
def d_L_degree : He.DefD := ⟨("_law_degree", none), "_law_degree", "_law_degree", defArgs s_L_degree, defBody s_L_degree, defScope s_L_degree, [], []⟩
def d_L_top : He.DefD := ⟨("_law_top", none), "_law_top", "_law_top", defArgs s_L_top, defBody s_L_top, defScope s_L_top, [], []⟩
def d_L_lead : He.DefD := ⟨("_law_lead", none), "_law_lead", "_law_lead", defArgs s_L_lead, defBody s_L_lead, defScope s_L_lead, [], []⟩
def d_L_slope : He.DefD := ⟨("_law_slope", none), "_law_slope", "_law_slope", defArgs s_L_slope, defBody s_L_slope, defScope s_L_slope, [], []⟩
def d_L_low : He.DefD := ⟨("_law_low", none), "_law_low", "_law_low", defArgs s_L_low, defBody s_L_low, defScope s_L_low, [], []⟩
def d_L_worth : He.DefD := ⟨("_law_worth", none), "_law_worth", "_law_worth", defArgs s_L_worth, defBody s_L_worth, defScope s_L_worth, [], []⟩
def d_L_some : He.DefD := ⟨("_law_some", none), "_law_some", "_law_some", defArgs s_L_some, defBody s_L_some, defScope s_L_some, [], []⟩
def d_L_packed : He.DefD := ⟨("_law_packed", none), "_law_packed", "_law_packed", defArgs s_L_packed, defBody s_L_packed, defScope s_L_packed, [], []⟩
def d_L_unpacked : He.DefD := ⟨("_law_unpacked", none), "_law_unpacked", "_law_unpacked", defArgs s_L_unpacked, defBody s_L_unpacked, defScope s_L_unpacked, [], []⟩
def d_L_is_poly : He.DefD := ⟨("_law_is_poly", none), "_law_is_poly", "_law_is_poly", defArgs s_L_is_poly, defBody s_L_is_poly, defScope s_L_is_poly, [], []⟩
def d_L_exchanged : He.DefD := ⟨("_law_exchanged", none), "_law_exchanged", "_law_exchanged", defArgs s_L_exchanged, defBody s_L_exchanged, defScope s_L_exchanged, [], []⟩
def d_L_are_sums_right : He.DefD := ⟨("_law_are_sums_right", none), "_law_are_sums_right", "_law_are_sums_right", defArgs s_L_are_sums_right, defBody s_L_are_sums_right, defScope s_L_are_sums_right, [], []⟩
def d_L_are_parts_right : He.DefD := ⟨("_law_are_parts_right", none), "_law_are_parts_right", "_law_are_parts_right", defArgs s_L_are_parts_right, defBody s_L_are_parts_right, defScope s_L_are_parts_right, [], []⟩
def d_L_is_worth_right : He.DefD := ⟨("_law_is_worth_right", none), "_law_is_worth_right", "_law_is_worth_right", defArgs s_L_is_worth_right, defBody s_L_is_worth_right, defScope s_L_is_worth_right, [], []⟩
def d_L_great : He.DefD := ⟨("_law_great", none), "_law_great", "_law_great", defArgs s_L_great, defBody s_L_great, defScope s_L_great, [], []⟩
def d_L_are_great_right : He.DefD := ⟨("_law_are_great_right", none), "_law_are_great_right", "_law_are_great_right", defArgs s_L_are_great_right, defBody s_L_are_great_right, defScope s_L_are_great_right, [], []⟩
def d_law : He.DefD := ⟨("law", none), "law", "law", defArgs s_law, defBody s_law, defScope s_law, [], []⟩
def fn0 : List He.DefD := [d_is_integer, d_is_within, d_check_number, d_check_unknown, d_check_integer, d_divisor_of, d_fraction, d_is_fraction, d_added, d_multiplied, d_raised, d_is_term, d_Poly_init, d_Poly_eq, d_RawPoly_init, d_poly_from, d_constant, d_number_poly, d_powers_of, d_unknown_power, d_unknown_poly, d_sum_with, d_plus, d_minus]
def fn1 : List He.DefD := [d_times, d_power_of, d_power, d_top, d_degree_by, d_degree, d_without, d_counts_by, d_lead_by, d_lead, d_slope_by, d_slope, d_worth_at, d_worth, d_exchanged, d_is_in, d_is_poly_in, d_check_polys, d_System_init, d_is_point, d_whole_point, d_is_root_of, d_is_root, d_L_hand]
def fn2 : List He.DefD := [d_L_draw, d_L_any, d_L_num, d_L_var, d_L_plus, d_L_times, d_L_power, d_L_mark, d_L_is_marked, d_L_degree, d_L_top, d_L_lead, d_L_slope, d_L_low, d_L_worth, d_L_some, d_L_packed, d_L_unpacked, d_L_is_poly, d_L_exchanged, d_L_are_sums_right, d_L_are_parts_right, d_L_is_worth_right, d_L_great]
def fn3 : List He.DefD := [d_L_are_great_right, d_law]
def fn : List He.DefD := fn0 ++ fn1 ++ fn2 ++ fn3
def fa0 : List He.Fa := [.free "len", .free "isinstance", .free "int", .free "abs", .free "range", .free "sorted", .free "tuple", .free "list", .free "dict", .free "max", .free "any", .free "all", .free "enumerate", .free "zip", .free "bool", .glo "is_integer", .glo "is_within", .glo "check_number", .glo "check_unknown", .glo "check_integer", .glo "divisor_of", .glo "fraction", .glo "is_fraction", .glo "added"]
def fa1 : List He.Fa := [.glo "multiplied", .glo "raised", .glo "is_term", .glo "poly_from", .glo "constant", .glo "number_poly", .glo "powers_of", .glo "unknown_power", .glo "unknown_poly", .glo "sum_with", .glo "plus", .glo "minus", .glo "times", .glo "power_of", .glo "power", .glo "top", .glo "degree_by", .glo "degree", .glo "without", .glo "counts_by", .glo "lead_by", .glo "lead", .glo "slope_by", .glo "slope"]
def fa2 : List He.Fa := [.glo "worth_at", .glo "worth", .glo "exchanged", .glo "is_in", .glo "is_poly_in", .glo "check_polys", .glo "is_point", .glo "whole_point", .glo "is_root_of", .glo "is_root", .glo "_law_hand", .glo "_law_draw", .glo "_law_any", .glo "_law_num", .glo "_law_var", .glo "_law_plus", .glo "_law_times", .glo "_law_power", .glo "_law_mark", .glo "_law_is_marked", .glo "_law_degree", .glo "_law_top", .glo "_law_lead", .glo "_law_slope"]
def fa3 : List He.Fa := [.glo "_law_low", .glo "_law_worth", .glo "_law_some", .glo "_law_packed", .glo "_law_unpacked", .glo "_law_is_poly", .glo "_law_exchanged", .glo "_law_are_sums_right", .glo "_law_are_parts_right", .glo "_law_is_worth_right", .glo "_law_great", .glo "_law_are_great_right", .glo "law", .int "UNKNOWNS" 4, .glo "ZERO", .glo "ONE", .int "MOST_TERMS" 300, .int "MOST_POWER" 60, .glo "NO_POWERS", .int "MOST_UNKNOWNS" 3, .int "MOST_POLYS" 6, .glo "Poly", .mkr "Poly", .cls "Poly"]
def fa4 : List He.Fa := [.glo "RawPoly", .mkr "RawPoly", .cls "RawPoly", .glo "System", .mkr "System", .cls "System", .noat "Poly" "terms", .noat "RawPoly" "terms", .noat "System" "many", .noat "System" "equations", .noat "System" "barred"]
def fa : List He.Fa := fa0 ++ fa1 ++ fa2 ++ fa3 ++ fa4
def names0 : List PySem.Str := ["RootError", "BadPoly", "BadSystem", "NoInteger", "NoUnknown", "NoNumber", "NoPoint", "is_integer", "is_within", "check_number", "check_unknown", "check_integer", "divisor_of", "fraction", "is_fraction", "added", "multiplied", "raised", "is_term", "Poly", "RawPoly", "poly_from", "constant", "number_poly"]
def names1 : List PySem.Str := ["powers_of", "unknown_power", "unknown_poly", "sum_with", "plus", "minus", "times", "power_of", "power", "top", "degree_by", "degree", "without", "counts_by", "lead_by", "lead", "slope_by", "slope", "worth_at", "worth", "exchanged", "is_in", "is_poly_in", "check_polys"]
def names2 : List PySem.Str := ["System", "is_point", "whole_point", "is_root_of", "is_root", "_law_hand", "_law_draw", "_law_any", "_law_num", "_law_var", "_law_plus", "_law_times", "_law_power", "_law_mark", "_law_is_marked", "_law_degree", "_law_top", "_law_lead", "_law_slope", "_law_low", "_law_worth", "_law_some", "_law_packed", "_law_unpacked"]
def names3 : List PySem.Str := ["_law_is_poly", "_law_exchanged", "_law_are_sums_right", "_law_are_parts_right", "_law_is_worth_right", "_law_great", "_law_are_great_right", "UNKNOWNS", "ZERO", "ONE", "MOST_TERMS", "MOST_POWER", "NO_POWERS", "MOST_UNKNOWNS", "MOST_POLYS"]
def names : List PySem.Str := names0 ++ names1 ++ names2 ++ names3
def polyB (K : PySem.W.Frag) (C : Addr) : Bool := He.eqO (PySem.W.findIn K (.ref C) "__class__") (some (some (.builtin "object.__class__"))) && (He.eqO (PySem.W.specialIn K (.builtin "object.__class__") "__get__") (some (some (.builtin "getset_descriptor.__get__"))) &&
  (decide (PySem.W.takesIn K (.builtin "object.__class__") = some true) && (decide (PySem.W.mroIn K C (.type "object") = some true) && (decide (PySem.W.kitOne K (.ref C) (.ref (CP K)) = some true) &&
  (He.eqO (PySem.W.findIn K (.ref C) "__eq__") (some (some (.ref (He.ma K (CP K) "__eq__")))) && PySem.W.isFn K (.ref (He.ma K (CP K) "__eq__")))))))
theorem polyB_ok {K : PySem.W.Frag} {C : Addr} (cl : Cls K C) (na : NoAttr K C fT) (h : polyB K C = true) : PolyC K C := by
  obtain ⟨h1, h⟩ := He.ba h
  obtain ⟨h2, h⟩ := He.ba h
  obtain ⟨h3, h⟩ := He.ba h
  obtain ⟨h4, h⟩ := He.ba h
  obtain ⟨h5, h⟩ := He.ba h
  obtain ⟨h6, h7⟩ := He.ba h
  exact ⟨cl, na, He.eqO_ok h1, He.eqO_ok h2, of_decide_eq_true h3, of_decide_eq_true h4, of_decide_eq_true h5, He.eqO_ok h6, h7⟩
def adr0 : List Addr := [3, 6, 4, 24, 46, 67, 79, 91, 103, 115, 124, 131, 138, 145, 152, 153, 154, 161, 168, 175, 182, 189, 196, 197, 202, 226, 247, 254, 261, 268, 273, 280, 287, 292, 299, 306, 313, 320, 327, 332]
def adr1 : List Addr := [337, 344, 351, 356, 363, 370, 377, 384, 391, 396, 401, 406, 413, 420, 444, 453, 460, 465, 472, 477, 484, 491, 498, 503, 508, 513, 520, 527, 534, 539, 544, 549, 556, 563, 570, 575, 580, 585, 590, 595]
def adr2 : List Addr := [602, 609, 616, 621, 626, 633, 0, 23, 45, 66, 78, 90, 102, 114, 123, 130, 137, 144, 151, 160, 167, 174, 181, 188, 195, 201, 225, 246, 253, 260, 267, 272, 279, 286, 291, 298, 305, 312, 319, 326]
def adr3 : List Addr := [331, 336, 343, 350, 355, 362, 369, 376, 383, 390, 395, 400, 405, 412, 419, 443, 452, 459, 464, 471, 476, 483, 490, 497, 502, 507, 512, 519, 526, 533, 538, 543, 548, 555, 562, 569, 574, 579, 584, 589]
def adr4 : List Addr := [594, 601, 608, 615, 620, 625, 632, 25, 43, 64, 216, 223, 244, 434, 441, 42, 31, 63, 52, 215, 222, 243, 433, 440, 2, 1]
def adr : List Addr := adr0 ++ adr1 ++ adr2 ++ adr3 ++ adr4
/-- the facts beyond the library's -/
def exB (K : PySem.W.Frag) : Bool := He.tupB K "NO_POWERS" [.int 0, .int 0, .int 0, .int 0] && (He.tupB K "ZERO" [.int 0, .int 1] && (He.tupB K "ONE" [.int 1, .int 1] && (polyB K (He.ga K "Poly") && (polyB K (He.ga K "RawPoly") && (seerB K && (PySem.W.notFirst K (CP K) (.type "tuple") && (decide (PySem.W.kitOne K (.type "tuple") (.ref (CP K)) = some false))))))))
abbrev AlM : Type := He.AlD × Bool
def hk (n : Nat) : PySem.W.Hook where
  α := AlM
  obs := fun s => (He.obsD fa fn (He.frG s.heap.get? adr), exB (He.frG s.heap.get? adr))
  val := fun _ => (He.valD fn, true)
  says := fun _ h => ∃ K : PySem.W.Frag, K.In h ∧ He.SaysD fa fn K ∧ exB K = true
  of := fun _ _ e => ⟨_, He.frG_in, congrArg (fun z : AlM => z.1) e, congrArg (fun z : AlM => z.2) e⟩
  keeps := fun _ _ _ ⟨K, hK, c⟩ k => ⟨K, PySem.W.Frag.In.keeps hK k, c⟩
abbrev R : PySem.W.OpenRow := PySem.W.OpenLaw.row PySem.Challenge.rw_boxedroots_k01_whole_sums_products_power
def ob (s : PySem.W.SharedT) : AlM := (He.obsD fa fn (He.frG (HandSHeadRun.getT s) adr), exB (He.frG (HandSHeadRun.getT s) adr))
theorem ob_eq (s : PySem.W.SharedT) : ob s = (hk 5).obs s.abs := by
  have e : HandSHeadRun.getT s = s.abs.heap.get? := funext (HandSHeadRun.getT_eq s)
  unfold ob
  rw [e]
  rfl
theorem map_two {α β γ : Type _} {o : Option α} {f : α → β} {g : α → γ} {a : β} {b : γ} (h : o.map f = some a) (k : o.map g = some b) : o.map (fun s => (f s, g s)) = some (a, b) := by
  cases o with
  | none => cases h
  | some x =>
    have e1 : f x = a := Option.some.inj h
    have e2 : g x = b := Option.some.inj k
    show some (f x, g x) = some (a, b)
    rw [e1, e2]
theorem map_and {α : Type _} {o : Option α} {f g : α → Bool} (h : o.map f = some true) (k : o.map g = some true) : o.map (fun s => f s && g s) = some true := by
  cases o with
  | none => cases h
  | some x =>
    have e1 : f x = true := Option.some.inj h
    have e2 : g x = true := Option.some.inj k
    show some (f x && g x) = some true
    rw [e1, e2]
    rfl
section
open HandSHeadRun PySem.W PySem.Calls
noncomputable abbrev EE (w : World) (os : OsState) := endF (stepQ (denQ tabQ) R.prog w) 8000 R.prog w os
abbrev KK (s : PySem.W.SharedT) : PySem.W.Frag := He.frG (HandSHeadRun.getT s) adr
set_option maxHeartbeats 0 in
theorem run_a (w : World) (os : OsState) : (EE w os).map (fun s => looksF R.prog (boot_heap w.params) s.abs) = some true := by kernel_rfl
set_option maxHeartbeats 0 in
theorem run_b (w : World) (os : OsState) : (EE w os).map (fun s => seenQ (PySem.W.view R.prog [93]) names (importedModules R.prog.main.body) (fun s => xlAt (PySem.W.view R.prog [93]) [] s && recOk R.toRowW.records s) s.abs) = some (openGood (PySem.W.view R.prog [93]) names) := by kernel_rfl
set_option maxHeartbeats 0 in
theorem run_c (w : World) (os : OsState) : (EE w os).map (fun s => fa.all fun f => f.ok (KK s)) = some true := by kernel_rfl
set_option maxHeartbeats 0 in
theorem run_d (w : World) (os : OsState) : (EE w os).map (fun s => fn.all fun d => d.ok (KK s)) = some true := by kernel_rfl
set_option maxHeartbeats 0 in
theorem run_e (w : World) (os : OsState) : (EE w os).map (fun s => fn.map fun d => He.fnW (KK s) d.at_) = some (fn.map He.DefD.val) := by kernel_rfl
set_option maxHeartbeats 0 in
theorem run_f (w : World) (os : OsState) : (EE w os).map (fun s => exB (KK s)) = some true := by kernel_rfl
theorem run (w : World) : HandSHeadRun.RunEq R (PySem.W.view R.prog [93]) (hk 5) ob 8000 names w := fun os =>
  map_two (run_a w os) (map_two (run_b w os) (map_two (map_two (map_and (run_c w os) (run_d w os)) (run_e w os)) (run_f w os)))
end
set_option maxHeartbeats 0 in
theorem facts {P : Program} {w : World} {K : PySem.W.Frag} {h : Heap} {mg : Str → Option Value} {f : Addr} (ht : P.given.tree = none) (X : K.In h) (G : h.Ns mainGlobals mg) (hfa : mg ("law" : Str) = some (.ref f)) (c : He.SaysD fa fn K) (cx : exB K = true) :
    ∃ fd : FuncData, (∀ (s : Shared) (v : Value), BindsTo s fd ⟨[v], []⟩ [("_law_script", v)]) ∧ ∀ base : Heap, K.In base → base.Ns mainGlobals mg → FnOk P w K mg base CX0 47 f fd ["_law_script"] (spOf (S_law P w K)) := by
  obtain ⟨fd_is_integer, F_is_integer⟩ := c.def_ 0 (d := d_is_integer) rfl
  obtain ⟨fd_is_within, F_is_within⟩ := c.def_ 1 (d := d_is_within) rfl
  obtain ⟨fd_check_number, F_check_number⟩ := c.def_ 2 (d := d_check_number) rfl
  obtain ⟨fd_check_unknown, F_check_unknown⟩ := c.def_ 3 (d := d_check_unknown) rfl
  obtain ⟨fd_check_integer, F_check_integer⟩ := c.def_ 4 (d := d_check_integer) rfl
  obtain ⟨fd_divisor_of, F_divisor_of⟩ := c.def_ 5 (d := d_divisor_of) rfl
  obtain ⟨fd_fraction, F_fraction⟩ := c.def_ 6 (d := d_fraction) rfl
  obtain ⟨fd_is_fraction, F_is_fraction⟩ := c.def_ 7 (d := d_is_fraction) rfl
  obtain ⟨fd_added, F_added⟩ := c.def_ 8 (d := d_added) rfl
  obtain ⟨fd_multiplied, F_multiplied⟩ := c.def_ 9 (d := d_multiplied) rfl
  obtain ⟨fd_raised, F_raised⟩ := c.def_ 10 (d := d_raised) rfl
  obtain ⟨fd_is_term, F_is_term⟩ := c.def_ 11 (d := d_is_term) rfl
  obtain ⟨fd_Poly_init, F_Poly_init⟩ := c.def_ 12 (d := d_Poly_init) rfl
  obtain ⟨fd_Poly_eq, F_Poly_eq⟩ := c.def_ 13 (d := d_Poly_eq) rfl
  obtain ⟨fd_RawPoly_init, F_RawPoly_init⟩ := c.def_ 14 (d := d_RawPoly_init) rfl
  obtain ⟨fd_poly_from, F_poly_from⟩ := c.def_ 15 (d := d_poly_from) rfl
  obtain ⟨fd_constant, F_constant⟩ := c.def_ 16 (d := d_constant) rfl
  obtain ⟨fd_number_poly, F_number_poly⟩ := c.def_ 17 (d := d_number_poly) rfl
  obtain ⟨fd_powers_of, F_powers_of⟩ := c.def_ 18 (d := d_powers_of) rfl
  obtain ⟨fd_unknown_power, F_unknown_power⟩ := c.def_ 19 (d := d_unknown_power) rfl
  obtain ⟨fd_unknown_poly, F_unknown_poly⟩ := c.def_ 20 (d := d_unknown_poly) rfl
  obtain ⟨fd_sum_with, F_sum_with⟩ := c.def_ 21 (d := d_sum_with) rfl
  obtain ⟨fd_plus, F_plus⟩ := c.def_ 22 (d := d_plus) rfl
  obtain ⟨fd_minus, F_minus⟩ := c.def_ 23 (d := d_minus) rfl
  obtain ⟨fd_times, F_times⟩ := c.def_ 24 (d := d_times) rfl
  obtain ⟨fd_power_of, F_power_of⟩ := c.def_ 25 (d := d_power_of) rfl
  obtain ⟨fd_power, F_power⟩ := c.def_ 26 (d := d_power) rfl
  obtain ⟨fd_top, F_top⟩ := c.def_ 27 (d := d_top) rfl
  obtain ⟨fd_degree_by, F_degree_by⟩ := c.def_ 28 (d := d_degree_by) rfl
  obtain ⟨fd_degree, F_degree⟩ := c.def_ 29 (d := d_degree) rfl
  obtain ⟨fd_without, F_without⟩ := c.def_ 30 (d := d_without) rfl
  obtain ⟨fd_counts_by, F_counts_by⟩ := c.def_ 31 (d := d_counts_by) rfl
  obtain ⟨fd_lead_by, F_lead_by⟩ := c.def_ 32 (d := d_lead_by) rfl
  obtain ⟨fd_lead, F_lead⟩ := c.def_ 33 (d := d_lead) rfl
  obtain ⟨fd_slope_by, F_slope_by⟩ := c.def_ 34 (d := d_slope_by) rfl
  obtain ⟨fd_slope, F_slope⟩ := c.def_ 35 (d := d_slope) rfl
  obtain ⟨fd_worth_at, F_worth_at⟩ := c.def_ 36 (d := d_worth_at) rfl
  obtain ⟨fd_worth, F_worth⟩ := c.def_ 37 (d := d_worth) rfl
  obtain ⟨fd_exchanged, F_exchanged⟩ := c.def_ 38 (d := d_exchanged) rfl
  obtain ⟨fd_is_in, F_is_in⟩ := c.def_ 39 (d := d_is_in) rfl
  obtain ⟨fd_is_poly_in, F_is_poly_in⟩ := c.def_ 40 (d := d_is_poly_in) rfl
  obtain ⟨fd_check_polys, F_check_polys⟩ := c.def_ 41 (d := d_check_polys) rfl
  obtain ⟨fd_System_init, F_System_init⟩ := c.def_ 42 (d := d_System_init) rfl
  obtain ⟨fd_is_point, F_is_point⟩ := c.def_ 43 (d := d_is_point) rfl
  obtain ⟨fd_whole_point, F_whole_point⟩ := c.def_ 44 (d := d_whole_point) rfl
  obtain ⟨fd_is_root_of, F_is_root_of⟩ := c.def_ 45 (d := d_is_root_of) rfl
  obtain ⟨fd_is_root, F_is_root⟩ := c.def_ 46 (d := d_is_root) rfl
  obtain ⟨fd_L_hand, F_L_hand⟩ := c.def_ 47 (d := d_L_hand) rfl
  obtain ⟨fd_L_draw, F_L_draw⟩ := c.def_ 48 (d := d_L_draw) rfl
  obtain ⟨fd_L_any, F_L_any⟩ := c.def_ 49 (d := d_L_any) rfl
  obtain ⟨fd_L_num, F_L_num⟩ := c.def_ 50 (d := d_L_num) rfl
  obtain ⟨fd_L_var, F_L_var⟩ := c.def_ 51 (d := d_L_var) rfl
  obtain ⟨fd_L_plus, F_L_plus⟩ := c.def_ 52 (d := d_L_plus) rfl
  obtain ⟨fd_L_times, F_L_times⟩ := c.def_ 53 (d := d_L_times) rfl
  obtain ⟨fd_L_power, F_L_power⟩ := c.def_ 54 (d := d_L_power) rfl
  obtain ⟨fd_L_mark, F_L_mark⟩ := c.def_ 55 (d := d_L_mark) rfl
  obtain ⟨fd_L_is_marked, F_L_is_marked⟩ := c.def_ 56 (d := d_L_is_marked) rfl
  obtain ⟨fd_L_degree, F_L_degree⟩ := c.def_ 57 (d := d_L_degree) rfl
  obtain ⟨fd_L_top, F_L_top⟩ := c.def_ 58 (d := d_L_top) rfl
  obtain ⟨fd_L_lead, F_L_lead⟩ := c.def_ 59 (d := d_L_lead) rfl
  obtain ⟨fd_L_slope, F_L_slope⟩ := c.def_ 60 (d := d_L_slope) rfl
  obtain ⟨fd_L_low, F_L_low⟩ := c.def_ 61 (d := d_L_low) rfl
  obtain ⟨fd_L_worth, F_L_worth⟩ := c.def_ 62 (d := d_L_worth) rfl
  obtain ⟨fd_L_some, F_L_some⟩ := c.def_ 63 (d := d_L_some) rfl
  obtain ⟨fd_L_packed, F_L_packed⟩ := c.def_ 64 (d := d_L_packed) rfl
  obtain ⟨fd_L_unpacked, F_L_unpacked⟩ := c.def_ 65 (d := d_L_unpacked) rfl
  obtain ⟨fd_L_is_poly, F_L_is_poly⟩ := c.def_ 66 (d := d_L_is_poly) rfl
  obtain ⟨fd_L_exchanged, F_L_exchanged⟩ := c.def_ 67 (d := d_L_exchanged) rfl
  obtain ⟨fd_L_are_sums_right, F_L_are_sums_right⟩ := c.def_ 68 (d := d_L_are_sums_right) rfl
  obtain ⟨fd_L_are_parts_right, F_L_are_parts_right⟩ := c.def_ 69 (d := d_L_are_parts_right) rfl
  obtain ⟨fd_L_is_worth_right, F_L_is_worth_right⟩ := c.def_ 70 (d := d_L_is_worth_right) rfl
  obtain ⟨fd_L_great, F_L_great⟩ := c.def_ 71 (d := d_L_great) rfl
  obtain ⟨fd_L_are_great_right, F_L_are_great_right⟩ := c.def_ 72 (d := d_L_are_great_right) rfl
  obtain ⟨fd_law, F_law⟩ := c.def_ 73 (d := d_law) rfl
  have T : Txt K mg := {
    b_len := He.free_ok X G (c.fact 0 (f := .free "len") rfl)
    b_isinstance := He.free_ok X G (c.fact 1 (f := .free "isinstance") rfl)
    b_int := He.free_ok X G (c.fact 2 (f := .free "int") rfl)
    b_abs := He.free_ok X G (c.fact 3 (f := .free "abs") rfl)
    b_range := He.free_ok X G (c.fact 4 (f := .free "range") rfl)
    b_sorted := He.free_ok X G (c.fact 5 (f := .free "sorted") rfl)
    b_tuple := He.free_ok X G (c.fact 6 (f := .free "tuple") rfl)
    b_list := He.free_ok X G (c.fact 7 (f := .free "list") rfl)
    b_dict := He.free_ok X G (c.fact 8 (f := .free "dict") rfl)
    b_max := He.free_ok X G (c.fact 9 (f := .free "max") rfl)
    b_any := He.free_ok X G (c.fact 10 (f := .free "any") rfl)
    b_all := He.free_ok X G (c.fact 11 (f := .free "all") rfl)
    b_enumerate := He.free_ok X G (c.fact 12 (f := .free "enumerate") rfl)
    b_zip := He.free_ok X G (c.fact 13 (f := .free "zip") rfl)
    b_bool := He.free_ok X G (c.fact 14 (f := .free "bool") rfl)
    g_is_integer := He.glo_ok X G (c.fact 15 (f := .glo "is_integer") rfl)
    g_is_within := He.glo_ok X G (c.fact 16 (f := .glo "is_within") rfl)
    g_check_number := He.glo_ok X G (c.fact 17 (f := .glo "check_number") rfl)
    g_check_unknown := He.glo_ok X G (c.fact 18 (f := .glo "check_unknown") rfl)
    g_check_integer := He.glo_ok X G (c.fact 19 (f := .glo "check_integer") rfl)
    g_divisor_of := He.glo_ok X G (c.fact 20 (f := .glo "divisor_of") rfl)
    g_fraction := He.glo_ok X G (c.fact 21 (f := .glo "fraction") rfl)
    g_is_fraction := He.glo_ok X G (c.fact 22 (f := .glo "is_fraction") rfl)
    g_added := He.glo_ok X G (c.fact 23 (f := .glo "added") rfl)
    g_multiplied := He.glo_ok X G (c.fact 24 (f := .glo "multiplied") rfl)
    g_raised := He.glo_ok X G (c.fact 25 (f := .glo "raised") rfl)
    g_is_term := He.glo_ok X G (c.fact 26 (f := .glo "is_term") rfl)
    g_poly_from := He.glo_ok X G (c.fact 27 (f := .glo "poly_from") rfl)
    g_constant := He.glo_ok X G (c.fact 28 (f := .glo "constant") rfl)
    g_number_poly := He.glo_ok X G (c.fact 29 (f := .glo "number_poly") rfl)
    g_powers_of := He.glo_ok X G (c.fact 30 (f := .glo "powers_of") rfl)
    g_unknown_power := He.glo_ok X G (c.fact 31 (f := .glo "unknown_power") rfl)
    g_unknown_poly := He.glo_ok X G (c.fact 32 (f := .glo "unknown_poly") rfl)
    g_sum_with := He.glo_ok X G (c.fact 33 (f := .glo "sum_with") rfl)
    g_plus := He.glo_ok X G (c.fact 34 (f := .glo "plus") rfl)
    g_minus := He.glo_ok X G (c.fact 35 (f := .glo "minus") rfl)
    g_times := He.glo_ok X G (c.fact 36 (f := .glo "times") rfl)
    g_power_of := He.glo_ok X G (c.fact 37 (f := .glo "power_of") rfl)
    g_power := He.glo_ok X G (c.fact 38 (f := .glo "power") rfl)
    g_top := He.glo_ok X G (c.fact 39 (f := .glo "top") rfl)
    g_degree_by := He.glo_ok X G (c.fact 40 (f := .glo "degree_by") rfl)
    g_degree := He.glo_ok X G (c.fact 41 (f := .glo "degree") rfl)
    g_without := He.glo_ok X G (c.fact 42 (f := .glo "without") rfl)
    g_counts_by := He.glo_ok X G (c.fact 43 (f := .glo "counts_by") rfl)
    g_lead_by := He.glo_ok X G (c.fact 44 (f := .glo "lead_by") rfl)
    g_lead := He.glo_ok X G (c.fact 45 (f := .glo "lead") rfl)
    g_slope_by := He.glo_ok X G (c.fact 46 (f := .glo "slope_by") rfl)
    g_slope := He.glo_ok X G (c.fact 47 (f := .glo "slope") rfl)
    g_worth_at := He.glo_ok X G (c.fact 48 (f := .glo "worth_at") rfl)
    g_worth := He.glo_ok X G (c.fact 49 (f := .glo "worth") rfl)
    g_exchanged := He.glo_ok X G (c.fact 50 (f := .glo "exchanged") rfl)
    g_is_in := He.glo_ok X G (c.fact 51 (f := .glo "is_in") rfl)
    g_is_poly_in := He.glo_ok X G (c.fact 52 (f := .glo "is_poly_in") rfl)
    g_check_polys := He.glo_ok X G (c.fact 53 (f := .glo "check_polys") rfl)
    g_is_point := He.glo_ok X G (c.fact 54 (f := .glo "is_point") rfl)
    g_whole_point := He.glo_ok X G (c.fact 55 (f := .glo "whole_point") rfl)
    g_is_root_of := He.glo_ok X G (c.fact 56 (f := .glo "is_root_of") rfl)
    g_is_root := He.glo_ok X G (c.fact 57 (f := .glo "is_root") rfl)
    g_L_hand := He.glo_ok X G (c.fact 58 (f := .glo "_law_hand") rfl)
    g_L_draw := He.glo_ok X G (c.fact 59 (f := .glo "_law_draw") rfl)
    g_L_any := He.glo_ok X G (c.fact 60 (f := .glo "_law_any") rfl)
    g_L_num := He.glo_ok X G (c.fact 61 (f := .glo "_law_num") rfl)
    g_L_var := He.glo_ok X G (c.fact 62 (f := .glo "_law_var") rfl)
    g_L_plus := He.glo_ok X G (c.fact 63 (f := .glo "_law_plus") rfl)
    g_L_times := He.glo_ok X G (c.fact 64 (f := .glo "_law_times") rfl)
    g_L_power := He.glo_ok X G (c.fact 65 (f := .glo "_law_power") rfl)
    g_L_mark := He.glo_ok X G (c.fact 66 (f := .glo "_law_mark") rfl)
    g_L_is_marked := He.glo_ok X G (c.fact 67 (f := .glo "_law_is_marked") rfl)
    g_L_degree := He.glo_ok X G (c.fact 68 (f := .glo "_law_degree") rfl)
    g_L_top := He.glo_ok X G (c.fact 69 (f := .glo "_law_top") rfl)
    g_L_lead := He.glo_ok X G (c.fact 70 (f := .glo "_law_lead") rfl)
    g_L_slope := He.glo_ok X G (c.fact 71 (f := .glo "_law_slope") rfl)
    g_L_low := He.glo_ok X G (c.fact 72 (f := .glo "_law_low") rfl)
    g_L_worth := He.glo_ok X G (c.fact 73 (f := .glo "_law_worth") rfl)
    g_L_some := He.glo_ok X G (c.fact 74 (f := .glo "_law_some") rfl)
    g_L_packed := He.glo_ok X G (c.fact 75 (f := .glo "_law_packed") rfl)
    g_L_unpacked := He.glo_ok X G (c.fact 76 (f := .glo "_law_unpacked") rfl)
    g_L_is_poly := He.glo_ok X G (c.fact 77 (f := .glo "_law_is_poly") rfl)
    g_L_exchanged := He.glo_ok X G (c.fact 78 (f := .glo "_law_exchanged") rfl)
    g_L_are_sums_right := He.glo_ok X G (c.fact 79 (f := .glo "_law_are_sums_right") rfl)
    g_L_are_parts_right := He.glo_ok X G (c.fact 80 (f := .glo "_law_are_parts_right") rfl)
    g_L_is_worth_right := He.glo_ok X G (c.fact 81 (f := .glo "_law_is_worth_right") rfl)
    g_L_great := He.glo_ok X G (c.fact 82 (f := .glo "_law_great") rfl)
    g_L_are_great_right := He.glo_ok X G (c.fact 83 (f := .glo "_law_are_great_right") rfl)
    g_law := He.glo_ok X G (c.fact 84 (f := .glo "law") rfl)
    c_UNKNOWNS := He.int_ok X G (c.fact 85 (f := .int "UNKNOWNS" 4) rfl)
    c_ZERO := He.glo_ok X G (c.fact 86 (f := .glo "ZERO") rfl)
    c_ONE := He.glo_ok X G (c.fact 87 (f := .glo "ONE") rfl)
    c_MOST_TERMS := He.int_ok X G (c.fact 88 (f := .int "MOST_TERMS" 300) rfl)
    c_MOST_POWER := He.int_ok X G (c.fact 89 (f := .int "MOST_POWER" 60) rfl)
    c_NO_POWERS := He.glo_ok X G (c.fact 90 (f := .glo "NO_POWERS") rfl)
    c_MOST_UNKNOWNS := He.int_ok X G (c.fact 91 (f := .int "MOST_UNKNOWNS" 3) rfl)
    c_MOST_POLYS := He.int_ok X G (c.fact 92 (f := .int "MOST_POLYS" 6) rfl)
    c_Poly := He.glo_ok X G (c.fact 93 (f := .glo "Poly") rfl)
    m_Poly := He.mkr_ok (c.fact 94 (f := .mkr "Poly") rfl)
    cl_Poly := He.cls_ok (c.fact 95 (f := .cls "Poly") rfl)
    c_RawPoly := He.glo_ok X G (c.fact 96 (f := .glo "RawPoly") rfl)
    m_RawPoly := He.mkr_ok (c.fact 97 (f := .mkr "RawPoly") rfl)
    cl_RawPoly := He.cls_ok (c.fact 98 (f := .cls "RawPoly") rfl)
    c_System := He.glo_ok X G (c.fact 99 (f := .glo "System") rfl)
    m_System := He.mkr_ok (c.fact 100 (f := .mkr "System") rfl)
    cl_System := He.cls_ok (c.fact 101 (f := .cls "System") rfl) }
  have na_Poly : NoAttr K (He.ga K "Poly") fT := He.noat_ok (c.fact 102 (f := .noat "Poly" "terms") rfl)
  have na_RawPoly : NoAttr K (He.ga K "RawPoly") fT := He.noat_ok (c.fact 103 (f := .noat "RawPoly" "terms") rfl)
  have na_System_many : NoAttr K (He.ga K "System") "many" := He.noat_ok (c.fact 104 (f := .noat "System" "many") rfl)
  have na_System_equations : NoAttr K (He.ga K "System") "equations" := He.noat_ok (c.fact 105 (f := .noat "System" "equations") rfl)
  have na_System_barred : NoAttr K (He.ga K "System") "barred" := He.noat_ok (c.fact 106 (f := .noat "System" "barred") rfl)
  obtain ⟨x0, cx⟩ := He.ba cx
  obtain ⟨x1, cx⟩ := He.ba cx
  obtain ⟨x2, cx⟩ := He.ba cx
  obtain ⟨x3, cx⟩ := He.ba cx
  obtain ⟨x4, cx⟩ := He.ba cx
  obtain ⟨x5, cx⟩ := He.ba cx
  obtain ⟨x6, cx⟩ := He.ba cx
  have x7 := cx
  have np : ∀ H, SqT K H (He.ga K "NO_POWERS") ([0, 0, 0, 0].map V.int) := fun H => He.tupB_ok x0 H
  have np1 : ∀ H, SqT K H (He.ga K "ZERO") ([0, 1].map V.int) := fun H => He.tupB_ok x1 H
  have np2 : ∀ H, SqT K H (He.ga K "ONE") ([1, 1].map V.int) := fun H => He.tupB_ok x2 H
  have pc_Poly : PolyC K (He.ga K "Poly") := polyB_ok T.cl_Poly na_Poly x3
  have pc_RawPoly : PolyC K (He.ga K "RawPoly") := polyB_ok T.cl_RawPoly na_RawPoly x4
  have hsk := x5
  have nft := x6
  have kt := of_decide_eq_true x7
  have e := hfa.symm.trans (He.glo_ok X G (c.fact 84 (f := .glo "law") rfl))
  cases e
  have b := FunD.bindsA (ps := ["_law_script"]) F_law fun _ _ _ _ _ _ us hl => match us, hl with | [_], _ => rfl
  refine ⟨fd_law, fun s v => b s [v] rfl, fun base _ _ => ?_⟩
  have c_L_is_poly : Callee P w K mg base (He.ga K "_law_is_poly") fd_L_is_poly ["_law_told", "_law_due"] 1 (spOf (S_L_is_poly P w K)) := ⟨F_L_is_poly.kp, F_L_is_poly.bindsN fun _ _ _ _ _ _ us hl => match us, hl with | [_, _], _ => rfl, ok_L_is_poly T F_L_is_poly  ⟩
  have c_RawPoly_init : Callee P w K mg base (He.ma K (He.ga K "RawPoly") "__init__") fd_RawPoly_init ["self", "terms"] 1 (spMk (He.ga K "RawPoly") (S_RawPoly_init P w K)) := ⟨F_RawPoly_init.kp, F_RawPoly_init.bindsN fun _ _ _ _ _ _ us hl => match us, hl with | [_, _], _ => rfl, ok_RawPoly_init T F_RawPoly_init  T.cl_RawPoly na_RawPoly⟩
  have c_poly_from : Callee P w K mg base (He.ga K "poly_from") fd_poly_from ["parts"] 3 (spOf (S_poly_from P w K)) := ⟨F_poly_from.kp, F_poly_from.bindsN fun _ _ _ _ _ _ us hl => match us, hl with | [_], _ => rfl, ok_poly_from T F_poly_from c_RawPoly_init ⟩
  have c_powers_of : Callee P w K mg base (He.ga K "powers_of") fd_powers_of ["k", "many"] 1 (spOf (S_powers_of P w K)) := ⟨F_powers_of.kp, F_powers_of.bindsN fun _ _ _ _ _ _ us hl => match us, hl with | [_, _], _ => rfl, ok_powers_of T F_powers_of  ⟩
  have c_unknown_power : Callee P w K mg base (He.ga K "unknown_power") fd_unknown_power ["k", "many"] 4 (spOf (S_unknown_power P w K)) := ⟨F_unknown_power.kp, F_unknown_power.bindsN fun _ _ _ _ _ _ us hl => match us, hl with | [_, _], _ => rfl, ok_unknown_power T F_unknown_power c_poly_from c_powers_of ⟩
  have c_is_integer : Callee P w K mg base (He.ga K "is_integer") fd_is_integer ["thing"] 1 (spOf (S_is_integer P w K)) := ⟨F_is_integer.kp, F_is_integer.bindsN fun _ _ _ _ _ _ us hl => match us, hl with | [_], _ => rfl, ok_is_integer T F_is_integer  ⟩
  have c_is_within : Callee P w K mg base (He.ga K "is_within") fd_is_within ["thing", "least", "most"] 2 (spOf (S_is_within P w K)) := ⟨F_is_within.kp, F_is_within.bindsN fun _ _ _ _ _ _ us hl => match us, hl with | [_, _, _], _ => rfl, ok_is_within T F_is_within c_is_integer ⟩
  have c_check_unknown : Callee P w K mg base (He.ga K "check_unknown") fd_check_unknown ["thing"] 3 (spOf (S_check_unknown P w K)) := ⟨F_check_unknown.kp, F_check_unknown.bindsN fun _ _ _ _ _ _ us hl => match us, hl with | [_], _ => rfl, ok_check_unknown T F_check_unknown c_is_within ⟩
  have c_unknown_poly : Callee P w K mg base (He.ga K "unknown_poly") fd_unknown_poly ["k"] 5 (spOf (S_unknown_poly P w K)) := ⟨F_unknown_poly.kp, F_unknown_poly.bindsN fun _ _ _ _ _ _ us hl => match us, hl with | [_], _ => rfl, ok_unknown_poly T F_unknown_poly c_unknown_power c_check_unknown ⟩
  have c_L_var : Callee P w K mg base (He.ga K "_law_var") fd_L_var ["_law_k"] 1 (spOf (S_L_var P w K)) := ⟨F_L_var.kp, F_L_var.bindsN fun _ _ _ _ _ _ us hl => match us, hl with | [_], _ => rfl, ok_L_var T F_L_var  ⟩
  have c_constant : Callee P w K mg base (He.ga K "constant") fd_constant ["number"] 4 (spOf (S_constant P w K)) := ⟨F_constant.kp, F_constant.bindsN fun _ _ _ _ _ _ us hl => match us, hl with | [_], _ => rfl, ok_constant T F_constant c_poly_from np⟩
  have c_check_integer : Callee P w K mg base (He.ga K "check_integer") fd_check_integer ["thing"] 2 (spOf (S_check_integer P w K)) := ⟨F_check_integer.kp, F_check_integer.bindsN fun _ _ _ _ _ _ us hl => match us, hl with | [_], _ => rfl, ok_check_integer T F_check_integer c_is_integer ⟩
  have c_number_poly : Callee P w K mg base (He.ga K "number_poly") fd_number_poly ["number"] 5 (spOf (S_number_poly P w K)) := ⟨F_number_poly.kp, F_number_poly.bindsN fun _ _ _ _ _ _ us hl => match us, hl with | [_], _ => rfl, ok_number_poly T F_number_poly c_constant c_check_integer ⟩
  have c_L_num : Callee P w K mg base (He.ga K "_law_num") fd_L_num ["_law_number"] 1 (spOf (S_L_num P w K)) := ⟨F_L_num.kp, F_L_num.bindsN fun _ _ _ _ _ _ us hl => match us, hl with | [_], _ => rfl, ok_L_num T F_L_num  ⟩
  have c_L_draw : Callee P w K mg base (He.ga K "_law_draw") fd_L_draw ["_law_hand_here", "_law_many"] 1 (spOf (S_L_draw P w K)) := ⟨F_L_draw.kp, F_L_draw.bindsN fun _ _ _ _ _ _ us hl => match us, hl with | [_, _], _ => rfl, ok_L_draw T F_L_draw  ⟩
  have c_L_any : Callee P w K mg base (He.ga K "_law_any") fd_L_any ["_law_hand_here", "_law_things"] 2 (spOf (S_L_any P w K)) := ⟨F_L_any.kp, F_L_any.bindsN fun _ _ _ _ _ _ us hl => match us, hl with | [_, _], _ => rfl, ok_L_any T F_L_any c_L_draw ⟩
  have c_divisor_of : Callee P w K mg base (He.ga K "divisor_of") fd_divisor_of ["one", "other"] 1 (spOf (S_divisor_of P w K)) := ⟨F_divisor_of.kp, F_divisor_of.bindsN fun _ _ _ _ _ _ us hl => match us, hl with | [_, _], _ => rfl, ok_divisor_of T F_divisor_of  ⟩
  have c_fraction : Callee P w K mg base (He.ga K "fraction") fd_fraction ["top", "bottom"] 40 (spOf (S_fraction P w K)) := ⟨F_fraction.kp, F_fraction.bindsN fun _ _ _ _ _ _ us hl => match us, hl with | [_, _], _ => rfl, ok_fraction T F_fraction c_divisor_of ht hsk⟩
  have c_added : Callee P w K mg base (He.ga K "added") fd_added ["one", "other"] 41 (spOf (S_added P w K)) := ⟨F_added.kp, F_added.bindsN fun _ _ _ _ _ _ us hl => match us, hl with | [_, _], _ => rfl, ok_added T F_added c_fraction ⟩
  have c_multiplied : Callee P w K mg base (He.ga K "multiplied") fd_multiplied ["one", "other"] 41 (spOf (S_multiplied P w K)) := ⟨F_multiplied.kp, F_multiplied.bindsN fun _ _ _ _ _ _ us hl => match us, hl with | [_, _], _ => rfl, ok_multiplied T F_multiplied c_fraction ⟩
  have c_raised : Callee P w K mg base (He.ga K "raised") fd_raised ["number", "many"] 42 (spOf (S_raised P w K)) := ⟨F_raised.kp, F_raised.bindsN fun _ _ _ _ _ _ us hl => match us, hl with | [_, _], _ => rfl, ok_raised T F_raised c_multiplied np2⟩
  have c_worth_at : Callee P w K mg base (He.ga K "worth_at") fd_worth_at ["poly", "point"] 43 (spOf (S_worth_at P w K)) := ⟨F_worth_at.kp, F_worth_at.bindsN fun _ _ _ _ _ _ us hl => match us, hl with | [_, _], _ => rfl, ok_worth_at T F_worth_at c_added c_multiplied c_raised np1⟩
  have c_is_fraction : Callee P w K mg base (He.ga K "is_fraction") fd_is_fraction ["thing"] 2 (spOf (S_is_fraction P w K)) := ⟨F_is_fraction.kp, F_is_fraction.bindsN fun _ _ _ _ _ _ us hl => match us, hl with | [_], _ => rfl, ok_is_fraction T F_is_fraction c_divisor_of c_is_integer ⟩
  have c_worth : Callee P w K mg base (He.ga K "worth") fd_worth ["poly", "point"] 44 (spOf (S_worth P w K)) := ⟨F_worth.kp, F_worth.bindsN fun _ _ _ _ _ _ us hl => match us, hl with | [_, _], _ => rfl, ok_worth T F_worth c_worth_at c_is_fraction ⟩
  have c_sum_with : Callee P w K mg base (He.ga K "sum_with") fd_sum_with ["one", "other", "by"] 4 (spOf (S_sum_with P w K)) := ⟨F_sum_with.kp, F_sum_with.bindsN fun _ _ _ _ _ _ us hl => match us, hl with | [_, _, _], _ => rfl, ok_sum_with T F_sum_with c_poly_from ⟩
  have c_plus : Callee P w K mg base (He.ga K "plus") fd_plus ["one", "other"] 5 (spOf (S_plus P w K)) := ⟨F_plus.kp, F_plus.bindsN fun _ _ _ _ _ _ us hl => match us, hl with | [_, _], _ => rfl, ok_plus T F_plus c_sum_with ⟩
  have c_L_low : Callee P w K mg base (He.ga K "_law_low") fd_L_low ["_law_above", "_law_bottom"] 40 (spOf (S_L_low P w K)) := ⟨F_L_low.kp, F_L_low.bindsN fun _ _ _ _ _ _ us hl => match us, hl with | [_, _], _ => rfl, ok_L_low T F_L_low  ht hsk⟩
  have c_times : Callee P w K mg base (He.ga K "times") fd_times ["one", "other"] 4 (spOf (S_times P w K)) := ⟨F_times.kp, F_times.bindsN fun _ _ _ _ _ _ us hl => match us, hl with | [_, _], _ => rfl, ok_times T F_times c_poly_from ⟩
  have c_L_worth : Callee P w K mg base (He.ga K "_law_worth") fd_L_worth ["_law_poly", "_law_point"] 41 (spOf (S_L_worth P w K)) := ⟨F_L_worth.kp, F_L_worth.bindsN fun _ _ _ _ _ _ us hl => match us, hl with | [_, _], _ => rfl, ok_L_worth T F_L_worth c_L_low ⟩
  have c_L_is_marked : Callee P w K mg base (He.ga K "_law_is_marked") fd_L_is_marked ["_law_thing"] 1 (spOf (S_L_is_marked P w K)) := ⟨F_L_is_marked.kp, F_L_is_marked.bindsN fun _ _ _ _ _ _ us hl => match us, hl with | [_], _ => rfl, ok_L_is_marked T F_L_is_marked  ⟩
  have c_is_term : Callee P w K mg base (He.ga K "is_term") fd_is_term ["thing"] 3 (spOf (S_is_term P w K)) := ⟨F_is_term.kp, F_is_term.bindsN fun _ _ _ _ _ _ us hl => match us, hl with | [_], _ => rfl, ok_is_term T F_is_term c_is_within c_is_integer ⟩
  have c_Poly_init : Callee P w K mg base (He.ma K (He.ga K "Poly") "__init__") fd_Poly_init ["self", "terms"] 4 (spMk (He.ga K "Poly") (S_Poly_init P w K)) := ⟨F_Poly_init.kp, F_Poly_init.bindsN fun _ _ _ _ _ _ us hl => match us, hl with | [_, _], _ => rfl, ok_Poly_init T F_Poly_init c_is_term T.cl_Poly na_Poly⟩
  have c_L_packed : Callee P w K mg base (He.ga K "_law_packed") fd_L_packed ["_law_thing"] 6 (spOf (S_L_packed P w K)) := ⟨F_L_packed.kp, F_L_packed.bindsN fun _ _ _ _ _ _ us hl => match us, hl with | [_], _ => rfl, ok_L_packed T F_L_packed c_L_is_marked c_Poly_init ⟩
  have c_L_mark : Callee P w K mg base (He.ga K "_law_mark") fd_L_mark ["_law_parts"] 1 (spOf (S_L_mark P w K)) := ⟨F_L_mark.kp, F_L_mark.bindsN fun _ _ _ _ _ _ us hl => match us, hl with | [_], _ => rfl, ok_L_mark T F_L_mark  ⟩
  have c_L_is_worth_right : Callee P w K mg base (He.ga K "_law_is_worth_right") fd_L_is_worth_right ["_law_hand_here", "_law_one", "_law_other"] 45 (spOf (S_L_is_worth_right P w K)) := ⟨F_L_is_worth_right.kp, F_L_is_worth_right.bindsN fun _ _ _ _ _ _ us hl => match us, hl with | [_, _, _], _ => rfl, ok_L_is_worth_right T F_L_is_worth_right c_worth c_plus c_L_low c_times c_L_worth c_L_packed c_L_mark c_L_draw c_L_any pc_Poly pc_RawPoly⟩
  have c_exchanged : Callee P w K mg base (He.ga K "exchanged") fd_exchanged ["poly", "k", "l"] 4 (spOf (S_exchanged P w K)) := ⟨F_exchanged.kp, F_exchanged.bindsN fun _ _ _ _ _ _ us hl => match us, hl with | [_, _, _], _ => rfl, ok_exchanged T F_exchanged c_poly_from c_check_unknown ⟩
  have c_L_exchanged : Callee P w K mg base (He.ga K "_law_exchanged") fd_L_exchanged ["_law_poly", "_law_k", "_law_l"] 1 (spOf (S_L_exchanged P w K)) := ⟨F_L_exchanged.kp, F_L_exchanged.bindsN fun _ _ _ _ _ _ us hl => match us, hl with | [_, _, _], _ => rfl, ok_L_exchanged T F_L_exchanged  ⟩
  have c_slope_by : Callee P w K mg base (He.ga K "slope_by") fd_slope_by ["poly", "k"] 4 (spOf (S_slope_by P w K)) := ⟨F_slope_by.kp, F_slope_by.bindsN fun _ _ _ _ _ _ us hl => match us, hl with | [_, _], _ => rfl, ok_slope_by T F_slope_by c_poly_from ⟩
  have c_slope : Callee P w K mg base (He.ga K "slope") fd_slope ["poly", "k"] 5 (spOf (S_slope P w K)) := ⟨F_slope.kp, F_slope.bindsN fun _ _ _ _ _ _ us hl => match us, hl with | [_, _], _ => rfl, ok_slope T F_slope c_slope_by c_check_unknown ⟩
  have c_L_slope : Callee P w K mg base (He.ga K "_law_slope") fd_L_slope ["_law_poly", "_law_k"] 1 (spOf (S_L_slope P w K)) := ⟨F_L_slope.kp, F_L_slope.bindsN fun _ _ _ _ _ _ us hl => match us, hl with | [_, _], _ => rfl, ok_L_slope T F_L_slope  ⟩
  have c_without : Callee P w K mg base (He.ga K "without") fd_without ["powers", "k"] 1 (spOf (S_without P w K)) := ⟨F_without.kp, F_without.bindsN fun _ _ _ _ _ _ us hl => match us, hl with | [_, _], _ => rfl, ok_without T F_without  ⟩
  have c_degree_by : Callee P w K mg base (He.ga K "degree_by") fd_degree_by ["poly", "k"] 1 (spOf (S_degree_by P w K)) := ⟨F_degree_by.kp, F_degree_by.bindsN fun _ _ _ _ _ _ us hl => match us, hl with | [_, _], _ => rfl, ok_degree_by T F_degree_by  ⟩
  have c_counts_by : Callee P w K mg base (He.ga K "counts_by") fd_counts_by ["poly", "k"] 4 (spOf (S_counts_by P w K)) := ⟨F_counts_by.kp, F_counts_by.bindsN fun _ _ _ _ _ _ us hl => match us, hl with | [_, _], _ => rfl, ok_counts_by T F_counts_by c_poly_from c_without c_degree_by ⟩
  have c_lead_by : Callee P w K mg base (He.ga K "lead_by") fd_lead_by ["poly", "k"] 5 (spOf (S_lead_by P w K)) := ⟨F_lead_by.kp, F_lead_by.bindsN fun _ _ _ _ _ _ us hl => match us, hl with | [_, _], _ => rfl, ok_lead_by T F_lead_by c_counts_by ⟩
  have c_lead : Callee P w K mg base (He.ga K "lead") fd_lead ["poly", "k"] 6 (spOf (S_lead P w K)) := ⟨F_lead.kp, F_lead.bindsN fun _ _ _ _ _ _ us hl => match us, hl with | [_, _], _ => rfl, ok_lead T F_lead c_lead_by c_check_unknown ⟩
  have c_L_degree : Callee P w K mg base (He.ga K "_law_degree") fd_L_degree ["_law_poly", "_law_k"] 1 (spOf (S_L_degree P w K)) := ⟨F_L_degree.kp, F_L_degree.bindsN fun _ _ _ _ _ _ us hl => match us, hl with | [_, _], _ => rfl, ok_L_degree T F_L_degree  ⟩
  have c_L_lead : Callee P w K mg base (He.ga K "_law_lead") fd_L_lead ["_law_poly", "_law_k"] 2 (spOf (S_L_lead P w K)) := ⟨F_L_lead.kp, F_L_lead.bindsN fun _ _ _ _ _ _ us hl => match us, hl with | [_, _], _ => rfl, ok_L_lead T F_L_lead c_L_degree ⟩
  have c_degree : Callee P w K mg base (He.ga K "degree") fd_degree ["poly", "k"] 4 (spOf (S_degree P w K)) := ⟨F_degree.kp, F_degree.bindsN fun _ _ _ _ _ _ us hl => match us, hl with | [_, _], _ => rfl, ok_degree T F_degree c_degree_by c_check_unknown ⟩
  have c_L_top : Callee P w K mg base (He.ga K "_law_top") fd_L_top ["_law_poly"] 2 (spOf (S_L_top P w K)) := ⟨F_L_top.kp, F_L_top.bindsN fun _ _ _ _ _ _ us hl => match us, hl with | [_], _ => rfl, ok_L_top T F_L_top c_L_degree ⟩
  have c_top : Callee P w K mg base (He.ga K "top") fd_top ["poly"] 1 (spOf (S_top P w K)) := ⟨F_top.kp, F_top.bindsN fun _ _ _ _ _ _ us hl => match us, hl with | [_], _ => rfl, ok_top T F_top  ⟩
  have c_L_are_parts_right : Callee P w K mg base (He.ga K "_law_are_parts_right") fd_L_are_parts_right ["_law_hand_here", "_law_one"] 7 (spOf (S_L_are_parts_right P w K)) := ⟨F_L_are_parts_right.kp, F_L_are_parts_right.bindsN fun _ _ _ _ _ _ us hl => match us, hl with | [_, _], _ => rfl, ok_L_are_parts_right T F_L_are_parts_right c_L_is_poly c_exchanged c_L_exchanged c_slope c_L_slope c_lead c_L_lead c_degree c_L_degree c_L_top c_top c_L_packed c_L_mark c_L_draw pc_Poly pc_RawPoly⟩
  have c_L_unpacked : Callee P w K mg base (He.ga K "_law_unpacked") fd_L_unpacked ["_law_thing"] 2 (spOf (S_L_unpacked P w K)) := ⟨F_L_unpacked.kp, F_L_unpacked.bindsN fun _ _ _ _ _ _ us hl => match us, hl with | [_], _ => rfl, ok_L_unpacked T F_L_unpacked c_L_mark ⟩
  have c_power_of : Callee P w K mg base (He.ga K "power_of") fd_power_of ["poly", "many"] 5 (spOf (S_power_of2 P w K)) := ⟨F_power_of.kp, F_power_of.bindsN fun _ _ _ _ _ _ us hl => match us, hl with | [_, _], _ => rfl, ok_power_of T F_power_of c_times c_constant ⟩
  have c_check_number : Callee P w K mg base (He.ga K "check_number") fd_check_number ["thing", "least", "most"] 3 (spOf (S_check_number P w K)) := ⟨F_check_number.kp, F_check_number.bindsN fun _ _ _ _ _ _ us hl => match us, hl with | [_, _, _], _ => rfl, ok_check_number T F_check_number c_is_within ⟩
  have c_power : Callee P w K mg base (He.ga K "power") fd_power ["poly", "many"] 6 (spOf (S_power P w K)) := ⟨F_power.kp, F_power.bindsN fun _ _ _ _ _ _ us hl => match us, hl with | [_, _], _ => rfl, ok_power T F_power c_power_of c_check_number ⟩
  have c_L_times : Callee P w K mg base (He.ga K "_law_times") fd_L_times ["_law_one", "_law_other"] 1 (spOf (S_L_times P w K)) := ⟨F_L_times.kp, F_L_times.bindsN fun _ _ _ _ _ _ us hl => match us, hl with | [_, _], _ => rfl, ok_L_times T F_L_times  ⟩
  have c_L_power : Callee P w K mg base (He.ga K "_law_power") fd_L_power ["_law_poly", "_law_many"] 2 (spOf (S_L_power2 P w K)) := ⟨F_L_power.kp, F_L_power.bindsN fun _ _ _ _ _ _ us hl => match us, hl with | [_, _], _ => rfl, ok_L_power T F_L_power c_L_times c_L_num ⟩
  have c_minus : Callee P w K mg base (He.ga K "minus") fd_minus ["one", "other"] 5 (spOf (S_minus P w K)) := ⟨F_minus.kp, F_minus.bindsN fun _ _ _ _ _ _ us hl => match us, hl with | [_, _], _ => rfl, ok_minus T F_minus c_sum_with ⟩
  have c_L_plus : Callee P w K mg base (He.ga K "_law_plus") fd_L_plus ["_law_one", "_law_other", "_law_by"] 1 (spOf (S_L_plus P w K)) := ⟨F_L_plus.kp, F_L_plus.bindsN fun _ _ _ _ _ _ us hl => match us, hl with | [_, _, _], _ => rfl, ok_L_plus T F_L_plus  ⟩
  have c_Poly_eq : Callee P w K mg base (He.ma K (He.ga K "Poly") "__eq__") fd_Poly_eq ["self", "other"] 1 (spOf (S_Poly_eq2 P w K)) := ⟨F_Poly_eq.kp, F_Poly_eq.bindsN fun _ _ _ _ _ _ us hl => match us, hl with | [_, _], _ => rfl, ok_Poly_eq T F_Poly_eq  ⟩
  have c_L_are_sums_right : Callee P w K mg base (He.ga K "_law_are_sums_right") fd_L_are_sums_right ["_law_hand_here", "_law_one", "_law_other"] 7 (spOf (S_L_are_sums_right P w K)) := ⟨F_L_are_sums_right.kp, F_L_are_sums_right.bindsN fun _ _ _ _ _ _ us hl => match us, hl with | [_, _, _], _ => rfl, ok_L_are_sums_right T F_L_are_sums_right c_L_unpacked c_L_mark c_L_packed c_L_is_poly c_power c_L_power c_L_any c_times c_L_times c_minus c_L_plus c_plus c_Poly_eq pc_Poly pc_RawPoly nft kt⟩
  have c_L_some : Callee P w K mg base (He.ga K "_law_some") fd_L_some ["_law_hand_here", "_law_most"] 3 (spOf (S_L_some2 P w K)) := ⟨F_L_some.kp, F_L_some.bindsN fun _ _ _ _ _ _ us hl => match us, hl with | [_, _], _ => rfl, ok_L_some T F_L_some c_L_plus c_L_draw c_L_any ⟩
  have c_whole_point : Callee P w K mg base (He.ga K "whole_point") fd_whole_point ["point"] 1 (spOf (S_whole_point P w K)) := ⟨F_whole_point.kp, F_whole_point.bindsN fun _ _ _ _ _ _ us hl => match us, hl with | [_], _ => rfl, ok_whole_point T F_whole_point  np1⟩
  have c_is_root_of : Callee P w K mg base (He.ga K "is_root_of") fd_is_root_of ["equations", "barred", "point"] 44 (spOf (S_is_root_of P w K)) := ⟨F_is_root_of.kp, F_is_root_of.bindsN fun _ _ _ _ _ _ us hl => match us, hl with | [_, _, _], _ => rfl, ok_is_root_of T F_is_root_of c_worth_at c_whole_point np1⟩
  have c_is_point : Callee P w K mg base (He.ga K "is_point") fd_is_point ["thing", "many"] 3 (spOf (S_is_point P w K)) := ⟨F_is_point.kp, F_is_point.bindsN fun _ _ _ _ _ _ us hl => match us, hl with | [_, _], _ => rfl, ok_is_point T F_is_point c_is_fraction ⟩
  have c_is_root : Callee P w K mg base (He.ga K "is_root") fd_is_root ["system", "thing"] 45 (spOf (S_is_root P w K)) := ⟨F_is_root.kp, F_is_root.bindsN fun _ _ _ _ _ _ us hl => match us, hl with | [_, _], _ => rfl, ok_is_root T F_is_root c_is_root_of c_is_point T.cl_System na_System_many na_System_equations na_System_barred⟩
  have c_is_in : Callee P w K mg base (He.ga K "is_in") fd_is_in ["poly", "many"] 1 (spOf (S_is_in P w K)) := ⟨F_is_in.kp, F_is_in.bindsN fun _ _ _ _ _ _ us hl => match us, hl with | [_, _], _ => rfl, ok_is_in T F_is_in  np⟩
  have c_is_poly_in : Callee P w K mg base (He.ga K "is_poly_in") fd_is_poly_in ["thing", "many"] 2 (spOf (S_is_poly_in P w K)) := ⟨F_is_poly_in.kp, F_is_poly_in.bindsN fun _ _ _ _ _ _ us hl => match us, hl with | [_, _], _ => rfl, ok_is_poly_in T F_is_poly_in c_is_in ⟩
  have c_check_polys : Callee P w K mg base (He.ga K "check_polys") fd_check_polys ["thing", "many", "one", "all_of_them"] 3 (spOf (S_check_polys P w K)) := ⟨F_check_polys.kp, F_check_polys.bindsN fun _ _ _ _ _ _ us hl => match us, hl with | [_, _, _, _], _ => rfl, ok_check_polys T F_check_polys c_is_poly_in ⟩
  have c_System_init : Callee P w K mg base (He.ma K (He.ga K "System") "__init__") fd_System_init ["self", "many", "equations", "barred"] 4 (spMk (He.ga K "System") (S_System_init P w K)) := ⟨F_System_init.kp, F_System_init.bindsN fun _ _ _ _ _ _ us hl => match us, hl with | [_, _, _, _], _ => rfl, ok_System_init T F_System_init c_check_polys c_is_within T.cl_System na_System_many na_System_equations na_System_barred⟩
  have c_L_great : Callee P w K mg base (He.ga K "_law_great") fd_L_great ["_law_hand_here"] 3 (spOf (S_L_great P w K)) := ⟨F_L_great.kp, F_L_great.bindsN fun _ _ _ _ _ _ us hl => match us, hl with | [_], _ => rfl, ok_L_great T F_L_great c_L_draw c_L_any c_L_plus ⟩
  have c_L_are_great_right : Callee P w K mg base (He.ga K "_law_are_great_right") fd_L_are_great_right ["_law_hand_here"] 46 (spOf (S_L_are_great_right P w K)) := ⟨F_L_are_great_right.kp, F_L_are_great_right.bindsN fun _ _ _ _ _ _ us hl => match us, hl with | [_], _ => rfl, ok_L_are_great_right T F_L_are_great_right c_is_root c_System_init c_L_worth c_L_mark c_L_unpacked c_L_draw c_worth c_L_any c_L_is_poly c_exchanged c_L_exchanged c_slope c_L_slope c_lead c_L_lead c_times c_degree c_L_degree c_top c_L_top c_L_times c_minus c_plus c_L_plus c_L_packed c_L_great c_Poly_eq pc_Poly pc_RawPoly nft kt T.cl_System na_System_many na_System_equations na_System_barred⟩
  have c_L_hand : Callee P w K mg base (He.ga K "_law_hand") fd_L_hand ["_law_script"] 1 (spOf (S_L_hand P w K)) := ⟨F_L_hand.kp, F_L_hand.bindsN fun _ _ _ _ _ _ us hl => match us, hl with | [_], _ => rfl, ok_L_hand T F_L_hand  ⟩
  exact ok_law T F_law c_L_is_poly c_unknown_poly c_L_var c_number_poly c_L_num c_L_any c_L_draw c_L_is_worth_right c_L_are_parts_right c_L_are_sums_right c_L_times c_L_some c_L_are_great_right c_L_hand pc_Poly pc_RawPoly
end Lw
open PySem PySem.W PySem.Calls PyProof.Rows
set_option maxHeartbeats 0 in
theorem PySem.Challenge.cw_boxedroots_k01_whole_sums_products_power_holds : PySem.Challenge.rw_boxedroots_k01_whole_sums_products_power.Holds := by
  w_on; o_law
  refine HandSHeadRun.head_any (r := OpenLaw.row PySem.Challenge.rw_boxedroots_k01_whole_sums_products_power) (q := view (OpenLaw.row PySem.Challenge.rw_boxedroots_k01_whole_sums_products_power).prog [93]) (H := Lw.hk 5) (ob := Lw.ob) (M := 8000) (loose := Lw.names) (d := HandSHeadRun.topDef (OpenLaw.row PySem.Challenge.rw_boxedroots_k01_whole_sums_products_power).prog 93) (kwd := []) Lw.ob_eq
    (by kernel_rfl) (fun s => by kernel_rfl) Lw.run (by kernel_rfl) (by kernel_rfl) (by kernel_rfl) (by rfl) (by first | assumption | decide +kernel) (by decide +kernel) ⟨rfl, rfl, rfl, rfl, rfl, by decide +kernel⟩ ?hw ?hc
  case hw => w_witness2
  case hc =>
    refine L2.walk_ofE (l := PySem.Challenge.rw_boxedroots_k01_whole_sums_products_power) (n := 63) (k := 47) (x := "_law_script") (CX := L2.CX0) rfl (by decide) (by kernel_rfl) ⟨rfl, by decide, by decide⟩ ?F (fun _ _ _ _ z => z)
    intro w mg fa h Y G hmg0
    obtain ⟨K, KX, c, cx⟩ := Y
    have hmg : mg ("law" : PySem.Str) = some (.ref fa) := by
      have e : (HandSHeadRun.topDef (OpenLaw.row PySem.Challenge.rw_boxedroots_k01_whole_sums_products_power).prog 93).name = ("law" : PySem.Str) := by kernel_rfl
      rw [← e]
      exact hmg0
    obtain ⟨fd, hb, hF⟩ := Lw.facts (P := (PySem.Challenge.rw_boxedroots_k01_whole_sums_products_power).prog) (w := w) rfl KX G hmg c cx
    exact ⟨K, fd, BX.spOf (Lw.S_law _ w K), KX, hb, fun H a ns hl hO hS => ⟨[BX.rScr K ns], fun r => r = BX.rBl true, .cons (BX.rScr_of hO hS) .nil, ⟨ns, rfl, Nat.le_trans hl (by decide), rfl⟩, fun r v H' k p _ => by subst k; exact p⟩, hF⟩
