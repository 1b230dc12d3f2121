import PyProof.Rows.All
import Wide.All
import OpenK.AllK
import Wide.FinOn
import PyProof.EqAt
import PyProof.EqKinds
import PyProof.TupleCall
import HandS.ForMost
import HandS.ForExc
import HandS.Defaults
import HandS.MakeKwOnly
import HandS.Property
import HandS.ClsMeth
import HandS.IsInst
import HandS.TryMany
import HandS.ExcField
import HandS.TupLe
import HandS.TupAny
import HandS.TupMul
import HandS.Style
import HandS.Flow
import HandS.Wide
import HandS.Conv
import HandS.Sort
import HandS.Walk
import HandS.Zip
import HandS.Iter
import HandS.Comp
import HandS.ExcInit
import HandS.OwnEq
import HandS.TryOnly
import HandS.ExcSuper
import KE.GoesMore
import HandS.Ends
import HandS.Head0
import HandS.Head1
import HandS.Head2
import HandS.HeadHook1
import HandS.HeadHook2
import PySem.Challenge.RW_upsanddowns_k12_one_strand_more
set_option Elab.async false
set_option linter.all false
set_option maxRecDepth 100000
set_option maxHeartbeats 2000000
/-! VSa: values as trees, how the abstract heap bears them, who owns what. -/
namespace VS
open PySem PySem.Spec PyProof.Rows L2

/-- a Python value as a tree; o: owned (one name alone holds it), so it may be changed in place -/
inductive D where
  | non | bl (b : Bool) | int (i : Int) | str (s : List Nat)
  | tup (xs : List D) | lst (o : Bool) (xs : List D) | obj (o : Bool) (c : Nat) (xs : List D)
  | cls (c : Nat) | ty (n : String) | rng (lo hi : Int)
  | exv (c : Nat) (xs : List D)

mutual
def D.isFz : D → Bool
  | .tup xs => D.allFz xs
  | .lst o xs => !o && D.allFz xs
  | .obj o _ xs => !o && D.allFz xs
  | .exv _ xs => D.allFz xs
  | _ => true
def D.allFz : List D → Bool
  | [] => true
  | d :: ds => D.isFz d && D.allFz ds
end
mutual
def D.fz : D → D
  | .tup xs => .tup (D.fzs xs)
  | .lst _ xs => .lst false (D.fzs xs)
  | .obj _ c xs => .obj false c (D.fzs xs)
  | .exv c xs => .exv c (D.fzs xs)
  | d => d
def D.fzs : List D → List D
  | [] => []
  | d :: ds => D.fz d :: D.fzs ds
end

/-- what the values lean on: the written part, where the classes stand, their fields in the order of their first store; how many classes are no exceptions'; the caught exception's address and dict -/
structure Rt where
  K : PySem.W.Frag
  ca : Nat → Addr
  fl : Nat → List Str
  nc : Nat
  exc : Option (Nat × Addr × Addr)

abbrev Av := Addr → Prop

/-- a list that no one changes, away from A (or of the written part) -/
def FzL (R : Rt) (H : Hp) (A : Av) (a : Addr) (vs : List V) : Prop := (Rd H a (.lst vs) ∧ ¬ A a) ∨ ∀ H', SqL R.K H' a vs

mutual
/-- v bears d in H; os: the addresses that d owns; what is not owned keeps away from A -/
def RP (R : Rt) (H : Hp) (A : Av) : D → V → List Addr → Prop
  | .non, v, os => v = .non ∧ os = []
  | .bl b, v, os => v = .bl b ∧ os = []
  | .int i, v, os => v = .int i ∧ os = []
  | .str s, v, os => v = .str ⟨s.toArray⟩ ∧ os = []
  | .cls c, v, os => (v = .ref (R.ca c) ∧ c < R.nc) ∧ os = []
  | .ty n, v, os => v = .ty n ∧ os = []
  | .rng lo hi, v, os => os = [] ∧ ∃ a, v = .ref a ∧ H a = some (.rng lo hi)
  | .tup ds, v, os => os = [] ∧ ∃ a vs, v = .ref a ∧ SqT R.K H a vs ∧ RPs R H A ds vs []
  | .lst o ds, v, os => if o = true then ∃ a vs os', v = .ref a ∧ os = a :: os' ∧ H a = some (.lst vs) ∧ RPs R H A ds vs os'
      else os = [] ∧ ∃ a vs, v = .ref a ∧ FzL R H A a vs ∧ RPs R H A ds vs []
  | .obj o c ds, v, os => if o = true then ∃ a dx vs os', v = .ref a ∧ os = a :: os' ∧ H a = some (.ins (R.ca c) dx ((R.fl c).zip vs)) ∧ (vs.length ≤ (R.fl c).length ∧ c < R.nc) ∧ RPs R H A ds vs os'
      else os = [] ∧ ∃ a dx vs, v = .ref a ∧ ¬ A a ∧ H a = some (.ins (R.ca c) dx ((R.fl c).zip vs)) ∧ (vs.length ≤ (R.fl c).length ∧ c < R.nc) ∧ RPs R H A ds vs []
  | .exv c ds, v, os => os = [] ∧ ∃ a dd vs, v = .ref a ∧ R.exc = some (c, a, dd) ∧ H dd = some (.xd ((R.fl c).zip vs)) ∧ vs.length ≤ (R.fl c).length ∧ RPs R H A ds vs []
def RPs (R : Rt) (H : Hp) (A : Av) : List D → List V → List Addr → Prop
  | [], vs, os => vs = [] ∧ os = []
  | d :: ds, vs, os => ∃ v vs' o1 o2, vs = v :: vs' ∧ os = o1 ++ o2 ∧ RP R H A d v o1 ∧ RPs R H A ds vs' o2
end

/-- what may be changed in place -/
def MutO : HO → Prop
  | .lst _ => True
  | .ins _ _ _ => True
  | _ => False

section
variable {R : Rt} {H H' : Hp} {A A' : Av}

theorem RPs.length : ∀ {ds : List D} {vs : List V} {os : List Addr}, RPs R H A ds vs os → vs.length = ds.length
  | [], vs, os, h => by
    unfold RPs at h
    rw [h.1]; rfl
  | d :: ds, vs, os, h => by
    unfold RPs at h
    obtain ⟨v, vs', o1, o2, rfl, _, _, h2⟩ := h
    rw [List.length_cons, List.length_cons, RPs.length h2]

mutual
theorem RP.fz_nil : ∀ {d : D} {v : V} {os : List Addr}, d.isFz = true → RP R H A d v os → os = []
  | .non, v, os, _, h => by unfold RP at h; exact h.2
  | .bl b, v, os, _, h => by unfold RP at h; exact h.2
  | .int i, v, os, _, h => by unfold RP at h; exact h.2
  | .str s, v, os, _, h => by unfold RP at h; exact h.2
  | .cls c, v, os, _, h => by unfold RP at h; exact h.2
  | .ty n, v, os, _, h => by unfold RP at h; exact h.2
  | .rng lo hi, v, os, _, h => by unfold RP at h; exact h.1
  | .tup ds, v, os, _, h => by unfold RP at h; exact h.1
  | .exv c ds, v, os, _, h => by unfold RP at h; exact h.1
  | .lst o ds, v, os, hf, h => by
    unfold RP at h
    unfold D.isFz at hf
    cases o with
    | true => simp at hf
    | false => simp only [Bool.false_eq_true, if_false] at h; exact h.1
  | .obj o c ds, v, os, hf, h => by
    unfold RP at h
    unfold D.isFz at hf
    cases o with
    | true => simp at hf
    | false => simp only [Bool.false_eq_true, if_false] at h; exact h.1
end

/-- the heap has changed at addresses of S alone; S is of things that change -/
structure Chg (S : Av) (H H' : Hp) : Prop where
  same : ∀ a o, H a = some o → ¬ S a → H' a = some o
  mu : ∀ a o, S a → H a = some o → MutO o

theorem Chg.rd {S : Av} (c : Chg S H H') {a : Addr} {u : HO} (h : Rd H a u) (hs : ¬ S a) : Rd H' a u := by
  rcases h with h | ⟨o, h⟩
  · exact .inl (c.same a _ h hs)
  · exact .inr ⟨o, c.same a _ h hs⟩
theorem Chg.tup {S : Av} (c : Chg S H H') {K : PySem.W.Frag} {a : Addr} {xs : List V} (h : SqT K H a xs) : SqT K H' a xs := by
  rcases h with h | h
  · left
    rcases h with h | ⟨o, h⟩
    · exact .inl (c.same a _ h fun s => by have := c.mu a _ s h; exact this)
    · exact .inr ⟨o, c.same a _ h fun s => by have := c.mu a _ s h; exact this⟩
  · exact .inr h
theorem FzL.sq {a : Addr} {vs : List V} (h : FzL R H A a vs) : SqL R.K H a vs := by
  rcases h with h | h
  · exact .inl h.1
  · exact h H
theorem Rd.some {a : Addr} {u : HO} (h : Rd H a u) : ∃ o, H a = some o := by
  rcases h with h | ⟨o, h⟩
  · exact ⟨_, h⟩
  · exact ⟨_, h⟩
theorem Chg.fzl {S : Av} (c : Chg S H H') (hA : ∀ a, S a → A a) (hB : ∀ a, A' a → A a ∨ H a = none) {a : Addr} {xs : List V} (h : FzL R H A a xs) : FzL R H' A' a xs := by
  rcases h with ⟨h, na⟩ | h
  · refine .inl ⟨c.rd h fun s => na (hA a s), fun q => ?_⟩
    rcases hB a q with z | z
    · exact na z
    · obtain ⟨o, e⟩ := Rd.some h
      rw [e] at z; cases z
  · exact .inr h

mutual
/-- what is borne stays borne where its own and the changed part, which A holds, are apart -/
theorem RP.chg {S : Av} (c : Chg S H H') (hA : ∀ a, S a → A a) (hB : ∀ a, A' a → A a ∨ H a = none) : ∀ {d : D} {v : V} {os : List Addr}, (∀ a ∈ os, ¬ S a) → RP R H A d v os → RP R H' A' d v os
  | .non, v, os, _, h => by unfold RP at h ⊢; exact h
  | .bl b, v, os, _, h => by unfold RP at h ⊢; exact h
  | .int i, v, os, _, h => by unfold RP at h ⊢; exact h
  | .str s, v, os, _, h => by unfold RP at h ⊢; exact h
  | .cls k, v, os, _, h => by unfold RP at h ⊢; exact h
  | .ty n, v, os, _, h => by unfold RP at h ⊢; exact h
  | .rng lo hi, v, os, _, h => by
    unfold RP at h ⊢
    obtain ⟨h0, a, e, hs⟩ := h
    exact ⟨h0, a, e, c.same a _ hs fun s => by have := c.mu a _ s hs; exact this⟩
  | .tup ds, v, os, ho, h => by
    unfold RP at h ⊢
    obtain ⟨h0, a, vs, e, hs, hr⟩ := h
    exact ⟨h0, a, vs, e, c.tup hs, RPs.chg c hA hB (by simp) hr⟩
  | .exv k ds, v, os, ho, h => by
    unfold RP at h ⊢
    obtain ⟨h0, a, dd, vs, e, he, hd, hl, hr⟩ := h
    exact ⟨h0, a, dd, vs, e, he, c.same _ _ hd fun s => by have := c.mu _ _ s hd; exact this, hl, RPs.chg c hA hB (by simp) hr⟩
  | .lst o ds, v, os, ho, h => by
    unfold RP at h ⊢
    cases o with
    | true =>
      simp only [if_true] at h ⊢
      obtain ⟨a, vs, os', e, e2, hs, hr⟩ := h
      subst e2
      exact ⟨a, vs, os', e, rfl, c.same a _ hs (ho a (by simp)), RPs.chg c hA hB (fun b hb => ho b (by simp [hb])) hr⟩
    | false =>
      simp only [Bool.false_eq_true, if_false] at h ⊢
      obtain ⟨h0, a, vs, e, hs, hr⟩ := h
      exact ⟨h0, a, vs, e, c.fzl hA hB hs, RPs.chg c hA hB (by simp) hr⟩
  | .obj o k ds, v, os, ho, h => by
    unfold RP at h ⊢
    cases o with
    | true =>
      simp only [if_true] at h ⊢
      obtain ⟨a, dx, vs, os', e, e2, hs, hl, hr⟩ := h
      subst e2
      exact ⟨a, dx, vs, os', e, rfl, c.same a _ hs (ho a (by simp)), hl, RPs.chg c hA hB (fun b hb => ho b (by simp [hb])) hr⟩
    | false =>
      simp only [Bool.false_eq_true, if_false] at h ⊢
      obtain ⟨h0, a, dx, vs, e, na, hs, hl, hr⟩ := h
      refine ⟨h0, a, dx, vs, e, fun q => ?_, c.same a _ hs fun s => na (hA a s), hl, RPs.chg c hA hB (by simp) hr⟩
      rcases hB a q with z | z
      · exact na z
      · rw [hs] at z; cases z
theorem RPs.chg {S : Av} (c : Chg S H H') (hA : ∀ a, S a → A a) (hB : ∀ a, A' a → A a ∨ H a = none) : ∀ {ds : List D} {vs : List V} {os : List Addr}, (∀ a ∈ os, ¬ S a) → RPs R H A ds vs os → RPs R H' A' ds vs os
  | [], vs, os, _, h => by unfold RPs at h ⊢; exact h
  | d :: ds, vs, os, ho, h => by
    unfold RPs at h ⊢
    obtain ⟨v, vs', o1, o2, e1, e2, h1, h2⟩ := h
    subst e2
    exact ⟨v, vs', o1, o2, e1, rfl, RP.chg c hA hB (fun a ha => ho a (by simp [ha])) h1, RPs.chg c hA hB (fun a ha => ho a (by simp [ha])) h2⟩
end

mutual
/-- what is owned is there, and may be changed -/
theorem RP.own : ∀ {d : D} {v : V} {os : List Addr}, RP R H A d v os → ∀ a ∈ os, ∃ o, H a = some o ∧ MutO o
  | .non, v, os, h => by unfold RP at h; simp [h.2]
  | .bl b, v, os, h => by unfold RP at h; simp [h.2]
  | .int i, v, os, h => by unfold RP at h; simp [h.2]
  | .str s, v, os, h => by unfold RP at h; simp [h.2]
  | .cls k, v, os, h => by unfold RP at h; simp [h.2]
  | .ty n, v, os, h => by unfold RP at h; simp [h.2]
  | .rng lo hi, v, os, h => by unfold RP at h; simp [h.1]
  | .tup ds, v, os, h => by unfold RP at h; simp [h.1]
  | .exv k ds, v, os, h => by unfold RP at h; simp [h.1]
  | .lst o ds, v, os, h => by
    unfold RP at h
    cases o with
    | true =>
      simp only [if_true] at h
      obtain ⟨a, vs, os', e, e2, hs, hr⟩ := h
      subst e2
      intro b hb
      rcases List.mem_cons.mp hb with rfl | hb
      · exact ⟨_, hs, trivial⟩
      · exact RPs.own hr b hb
    | false =>
      simp only [Bool.false_eq_true, if_false] at h
      simp [h.1]
  | .obj o k ds, v, os, h => by
    unfold RP at h
    cases o with
    | true =>
      simp only [if_true] at h
      obtain ⟨a, dx, vs, os', e, e2, hs, _, hr⟩ := h
      subst e2
      intro b hb
      rcases List.mem_cons.mp hb with rfl | hb
      · exact ⟨_, hs, trivial⟩
      · exact RPs.own hr b hb
    | false =>
      simp only [Bool.false_eq_true, if_false] at h
      simp [h.1]
theorem RPs.own : ∀ {ds : List D} {vs : List V} {os : List Addr}, RPs R H A ds vs os → ∀ a ∈ os, ∃ o, H a = some o ∧ MutO o
  | [], vs, os, h => by unfold RPs at h; simp [h.2]
  | d :: ds, vs, os, h => by
    unfold RPs at h
    obtain ⟨v, vs', o1, o2, e1, e2, h1, h2⟩ := h
    subst e2
    intro a ha
    rcases List.mem_append.mp ha with ha | ha
    · exact RP.own h1 a ha
    · exact RPs.own h2 a ha
end

theorem FzL.sub {a : Addr} {vs : List V} (h : FzL R H A a vs) (hB : A' a → A a ∨ H a = none) : FzL R H A' a vs := by
  rcases h with ⟨h, na⟩ | h
  · refine .inl ⟨h, fun q => ?_⟩
    rcases hB q with z | z
    · exact na z
    · obtain ⟨o, e⟩ := Rd.some h
      rw [e] at z; cases z
  · exact .inr h

mutual
/-- ownership given up -/
theorem RP.freeze (hB : ∀ a, A' a → A a ∨ H a = none) : ∀ {d : D} {v : V} {os : List Addr}, (∀ a ∈ os, ¬ A' a) → RP R H A d v os → RP R H A' d.fz v []
  | .non, v, os, _, h => by unfold RP at h; unfold D.fz; unfold RP; exact ⟨h.1, rfl⟩
  | .bl b, v, os, _, h => by unfold RP at h; unfold D.fz; unfold RP; exact ⟨h.1, rfl⟩
  | .int i, v, os, _, h => by unfold RP at h; unfold D.fz; unfold RP; exact ⟨h.1, rfl⟩
  | .str s, v, os, _, h => by unfold RP at h; unfold D.fz; unfold RP; exact ⟨h.1, rfl⟩
  | .cls k, v, os, _, h => by unfold RP at h; unfold D.fz; unfold RP; exact ⟨h.1, rfl⟩
  | .ty n, v, os, _, h => by unfold RP at h; unfold D.fz; unfold RP; exact ⟨h.1, rfl⟩
  | .rng lo hi, v, os, _, h => by unfold RP at h; unfold D.fz; unfold RP; exact ⟨rfl, h.2⟩
  | .tup ds, v, os, ho, h => by
    unfold RP at h; unfold D.fz; unfold RP
    obtain ⟨h0, a, vs, e, hs, hr⟩ := h
    exact ⟨rfl, a, vs, e, hs, RPs.freeze hB (by simp) hr⟩
  | .exv k ds, v, os, ho, h => by
    unfold RP at h; unfold D.fz; unfold RP
    obtain ⟨h0, a, dd, vs, e, he, hd, hl, hr⟩ := h
    exact ⟨rfl, a, dd, vs, e, he, hd, hl, RPs.freeze hB (by simp) hr⟩
  | .lst o ds, v, os, ho, h => by
    unfold RP at h; unfold D.fz; unfold RP
    simp only [Bool.false_eq_true, if_false]
    cases o with
    | true =>
      simp only [if_true] at h
      obtain ⟨a, vs, os', e, e2, hs, hr⟩ := h
      subst e2
      exact ⟨trivial, a, vs, e, .inl ⟨.inl hs, ho a (by simp)⟩, RPs.freeze hB (fun b hb => ho b (by simp [hb])) hr⟩
    | false =>
      simp only [Bool.false_eq_true, if_false] at h
      obtain ⟨h0, a, vs, e, hs, hr⟩ := h
      exact ⟨trivial, a, vs, e, hs.sub (hB a), RPs.freeze hB (by simp) hr⟩
  | .obj o k ds, v, os, ho, h => by
    unfold RP at h; unfold D.fz; unfold RP
    simp only [Bool.false_eq_true, if_false]
    cases o with
    | true =>
      simp only [if_true] at h
      obtain ⟨a, dx, vs, os', e, e2, hs, hl, hr⟩ := h
      subst e2
      exact ⟨trivial, a, dx, vs, e, ho a (by simp), hs, hl, RPs.freeze hB (fun b hb => ho b (by simp [hb])) hr⟩
    | false =>
      simp only [Bool.false_eq_true, if_false] at h
      obtain ⟨h0, a, dx, vs, e, na, hs, hl, hr⟩ := h
      refine ⟨trivial, a, dx, vs, e, fun q => ?_, hs, hl, RPs.freeze hB (by simp) hr⟩
      rcases hB a q with z | z
      · exact na z
      · rw [hs] at z; cases z
theorem RPs.freeze (hB : ∀ a, A' a → A a ∨ H a = none) : ∀ {ds : List D} {vs : List V} {os : List Addr}, (∀ a ∈ os, ¬ A' a) → RPs R H A ds vs os → RPs R H A' (D.fzs ds) vs []
  | [], vs, os, _, h => by unfold RPs at h; unfold D.fzs; unfold RPs; exact ⟨h.1, rfl⟩
  | d :: ds, vs, os, ho, h => by
    unfold RPs at h; unfold D.fzs; unfold RPs
    obtain ⟨v, vs', o1, o2, e1, e2, h1, h2⟩ := h
    subst e2
    exact ⟨v, vs', [], [], e1, rfl, RP.freeze hB (fun a ha => ho a (by simp [ha])) h1, RPs.freeze hB (fun a ha => ho a (by simp [ha])) h2⟩
end

mutual
theorem D.fz_of : ∀ {d : D}, d.isFz = true → d.fz = d
  | .non, _ => rfl
  | .bl b, _ => rfl
  | .int i, _ => rfl
  | .str s, _ => rfl
  | .cls k, _ => rfl
  | .ty n, _ => rfl
  | .rng lo hi, _ => rfl
  | .tup ds, h => by unfold D.isFz at h; unfold D.fz; rw [D.fzs_of h]
  | .exv k ds, h => by unfold D.isFz at h; unfold D.fz; rw [D.fzs_of h]
  | .lst o ds, h => by
    unfold D.isFz at h; unfold D.fz
    cases o with
    | true => simp at h
    | false => rw [D.fzs_of (by simpa using h)]
  | .obj o k ds, h => by
    unfold D.isFz at h; unfold D.fz
    cases o with
    | true => simp at h
    | false => rw [D.fzs_of (by simpa using h)]
theorem D.fzs_of : ∀ {ds : List D}, D.allFz ds = true → D.fzs ds = ds
  | [], _ => rfl
  | d :: ds, h => by
    unfold D.allFz at h; unfold D.fzs
    simp only [Bool.and_eq_true] at h
    rw [D.fz_of h.1, D.fzs_of h.2]
end
end
end VS
set_option Elab.async false
set_option linter.all false
set_option maxRecDepth 100000
set_option maxHeartbeats 2000000
/-! VSb: the slots of a frame and what they own; what an evaluation leaves. -/
namespace VS
open PySem PySem.Spec PyProof.Rows L2

abbrev VE := List (Option D)
abbrev Own := Nat → List Addr
def Ow (ow : Own) : Av := fun a => ∃ i, a ∈ ow i
def Avd (ow : Own) (Rs : Av) : Av := fun a => Ow ow a ∨ Rs a
def Tm (Rs : Av) (os : List Addr) : Av := fun a => Rs a ∨ a ∈ os

/-- the slots σ bear env in H; ow i: what slot i owns; Rs: addresses that others hold (temporaries), apart from all this -/
structure ES (R : Rt) (H : Hp) (Rs : Av) (env : VE) (σ : L2.St) (ow : Own) : Prop where
  len : env.length = σ.length
  rep : ∀ i d, env[i]? = some (some d) → ∃ v, σ[i]? = some (some v) ∧ RP R H (Avd ow Rs) d v (ow i)
  nil : ∀ i, (∀ d, env[i]? ≠ some (some d)) → ow i = []
  nd : ∀ i, (ow i).Nodup
  dj : ∀ i j a, a ∈ ow i → a ∈ ow j → i = j
  rs : ∀ a, Rs a → ¬ Ow ow a
  rt : ∀ a, Rs a → H a ≠ none

section
variable {mu m1 m2 : Bool} {R : Rt} {H H' H1 H2 : Hp} {Rs Rs' : Av} {env env1 env2 : VE} {σ : L2.St} {ow ow' ow1 ow2 : Own} {os os1 os2 : List Addr}

theorem ES.ow_some (s : ES R H Rs env σ ow) {a : Addr} (h : Ow ow a) : ∃ o, H a = some o ∧ MutO o := by
  obtain ⟨i, hi⟩ := h
  by_cases q : ∃ d, env[i]? = some (some d)
  · obtain ⟨d, q⟩ := q
    obtain ⟨v, _, r⟩ := s.rep i d q
    exact r.own a hi
  · have := s.nil i fun d e => q ⟨d, e⟩
    rw [this] at hi; cases hi

theorem RP.avoid {A A' : Av} (hB : ∀ a, A' a → A a ∨ H a = none) {d : D} {v : V} {os : List Addr} (r : RP R H A d v os) : RP R H A' d v os :=
  r.chg (S := fun _ => False) ⟨fun _ _ h _ => h, fun _ _ h => h.elim⟩ (fun _ h => h.elim) hB (fun _ _ h => h)
theorem RPs.avoid {A A' : Av} (hB : ∀ a, A' a → A a ∨ H a = none) {d : List D} {v : List V} {os : List Addr} (r : RPs R H A d v os) : RPs R H A' d v os :=
  r.chg (S := fun _ => False) ⟨fun _ _ h _ => h, fun _ _ h => h.elim⟩ (fun _ h => h.elim) hB (fun _ _ h => h)
/-- the heap has only grown -/
def Gr (H H' : Hp) : Prop := ∀ a o, H a = some o → H' a = some o
theorem Gr.refl (H : Hp) : Gr H H := fun _ _ h => h
theorem Gr.trans (a : Gr H H1) (b : Gr H1 H2) : Gr H H2 := fun x o h => b x o (a x o h)
theorem Gr.new {p : Addr} {o : HO} (h : H p = none) : Gr H (upd H p o) := fun a u e => by
  rw [upd_ne (ne_of_none e h)]; exact e
theorem RP.grow {A A' : Av} (g : Gr H H') (hB : ∀ a, A' a → A a ∨ H a = none) {d : D} {v : V} {os : List Addr} (r : RP R H A d v os) : RP R H' A' d v os :=
  r.chg (S := fun _ => False) ⟨fun a o h _ => g a o h, fun _ _ h => h.elim⟩ (fun _ h => h.elim) hB (fun _ _ h => h)
theorem RPs.grow {A A' : Av} (g : Gr H H') (hB : ∀ a, A' a → A a ∨ H a = none) {d : List D} {v : List V} {os : List Addr} (r : RPs R H A d v os) : RPs R H' A' d v os :=
  r.chg (S := fun _ => False) ⟨fun a o h _ => g a o h, fun _ _ h => h.elim⟩ (fun _ h => h.elim) hB (fun _ _ h => h)

/-- fewer temporaries; a grown heap -/
theorem ES.grow (s : ES R H Rs env σ ow) (g : Gr H H') (h1 : ∀ a, Rs' a → Rs a ∨ H a = none) (h2 : ∀ a, Rs' a → H' a ≠ none) : ES R H' Rs' env σ ow where
  len := s.len
  rep := fun i d e => by
    obtain ⟨v, e1, r⟩ := s.rep i d e
    refine ⟨v, e1, r.grow g fun a q => ?_⟩
    rcases q with q | q
    · exact .inl (.inl q)
    · rcases h1 a q with z | z
      · exact .inl (.inr z)
      · exact .inr z
  nil := s.nil
  nd := s.nd
  dj := s.dj
  rs := fun a q w => by
    rcases h1 a q with z | z
    · exact s.rs a z w
    · obtain ⟨o, e, _⟩ := s.ow_some w
      rw [z] at e; cases e
  rt := h2
theorem ES.less (s : ES R H Rs env σ ow) (h1 : ∀ a, Rs' a → Rs a) : ES R H Rs' env σ ow :=
  s.grow (Gr.refl H) (fun a q => .inl (h1 a q)) fun a q => s.rt a (h1 a q)

/-- what an evaluation leaves: mu says whether it may have changed what the frame owns; os: what its result owns -/
structure Po (R : Rt) (Rs : Av) (mu : Bool) (ow : Own) (H : Hp) (env' : VE) (σ : L2.St) (ow' : Own) (os : List Addr) (H' : Hp) : Prop where
  es : ES R H' (Tm Rs os) env' σ ow'
  new : ∀ a, Ow ow' a ∨ a ∈ os → Ow ow a ∨ H a = none
  fr : ∀ a o, H a = some o → (mu = true → ¬ Ow ow a) → H' a = some o
  trk : ∀ a, H a ≠ none → H' a ≠ none
  nd : os.Nodup

theorem Tm.nil {a : Addr} : Tm Rs [] a ↔ Rs a := by simp [Tm]
theorem Po.refl (s : ES R H Rs env σ ow) : Po R Rs mu ow H env σ ow [] H :=
  ⟨s.less fun a q => Tm.nil.mp q, fun a q => by simp at q; exact .inl q, fun _ _ h _ => h, fun _ h => h, by simp⟩
theorem Po.le (p : Po R Rs m1 ow H env1 σ ow1 os H1) (h : m1 = true → m2 = true) : Po R Rs m2 ow H env1 σ ow1 os H1 :=
  ⟨p.es, p.new, fun a o e q => p.fr a o e fun z => q (h z), p.trk, p.nd⟩
/-- the result grows into a new one: its owner's list os' of what was owned, or is new -/
theorem Po.grow (p : Po R Rs mu ow H env1 σ ow1 os H1) (g : Gr H1 H2) (h : ∀ a ∈ os2, a ∈ os ∨ (H1 a = none ∧ H2 a ≠ none)) (hn : os2.Nodup) : Po R Rs mu ow H env1 σ ow1 os2 H2 where
  es := p.es.grow g (fun a q => by
    rcases q with q | q
    · exact .inl (.inl q)
    · rcases h a q with z | z
      · exact .inl (.inr z)
      · exact .inr z.1) fun a q => by
    have k : ∀ {b}, H1 b ≠ none → H2 b ≠ none := fun {b} hb => by
      cases e : H1 b with
      | none => exact absurd e hb
      | some o => rw [g b o e]; simp
    rcases q with q | q
    · exact k (p.es.rt a (.inl q))
    · rcases h a q with z | z
      · exact k (p.es.rt a (.inr z))
      · exact z.2
  new := fun a q => by
    rcases q with q | q
    · exact p.new a (.inl q)
    · rcases h a q with z | z
      · exact p.new a (.inr z)
      · right
        cases e : H a with
        | none => rfl
        | some o => exact absurd z.1 (p.trk a (by rw [e]; simp))
  fr := fun a o e q => g a o (p.fr a o e q)
  trk := fun a q => by
    have q1 := p.trk a q
    cases e : H1 a with
    | none => exact absurd e q1
    | some o => rw [g a o e]; simp
  nd := hn
theorem Po.drop (p : Po R Rs mu ow H env1 σ ow1 os H1) (h : ∀ a ∈ os2, a ∈ os) (hn : os2.Nodup) : Po R Rs mu ow H env1 σ ow1 os2 H1 := p.grow (Gr.refl H1) (fun a q => .inl (h a q)) hn
theorem Po.nil (p : Po R Rs mu ow H env1 σ ow1 os H1) : Po R Rs mu ow H env1 σ ow1 [] H1 := p.drop (by simp) (by simp)

/-- one evaluation behind another -/
theorem Po.seq (p : Po R Rs m1 ow H env1 σ ow1 os1 H1) (q : Po R (Tm Rs os1) m2 ow1 H1 env2 σ ow2 os2 H2) (h : ∀ a ∈ os, a ∈ os1 ∨ a ∈ os2) (hn : os.Nodup) : Po R Rs (m1 || m2) ow H env2 σ ow2 os H2 where
  es := q.es.less fun a z => by
    rcases z with z | z
    · exact .inl (.inl z)
    · rcases h a z with y | y
      · exact .inl (.inr y)
      · exact .inr y
  new := fun a z => by
    have key : Ow ow1 a ∨ H1 a = none → Ow ow a ∨ H a = none := fun y => by
      rcases y with y | y
      · exact p.new a (.inl y)
      · right
        cases e : H a with
        | none => rfl
        | some o => exact absurd y (p.trk a (by rw [e]; simp))
    rcases z with z | z
    · exact key (q.new a (.inl z))
    · rcases h a z with y | y
      · exact p.new a (.inr y)
      · exact key (q.new a (.inr y))
  fr := fun a o e z => by
    refine q.fr a o (p.fr a o e fun y => z (by simp [y])) fun y w => ?_
    rcases p.new a (.inl w) with k | k
    · exact z (by simp [y]) k
    · rw [e] at k; cases k
  trk := fun a z => q.trk a (p.trk a z)
  nd := hn
/-- what stood ahead of an evaluation stands behind it -/
theorem Po.keep (q : Po R Rs mu ow H env1 σ ow1 os1 H1) (s : ES R H Rs env σ ow) {d : D} {v : V} (r : RP R H (Avd ow Rs) d v os) (ho : ∀ a ∈ os, Rs a) : RP R H1 (Avd ow1 (Tm Rs os1)) d v os := by
  refine r.chg (S := fun a => mu = true ∧ Ow ow a) ⟨fun a o e z => q.fr a o e fun y w => z ⟨y, w⟩, fun a o z e => ?_⟩ (fun a z => .inl z.2) (fun a z => ?_) fun a ha z => s.rs a (ho a ha) z.2
  · obtain ⟨o', e', m⟩ := s.ow_some z.2
    rw [e] at e'; cases e'; exact m
  · rcases z with z | z | z
    · rcases q.new a (.inl z) with y | y
      · exact .inl (.inl y)
      · exact .inr y
    · exact .inl (.inr z)
    · rcases q.new a (.inr z) with y | y
      · exact .inl (.inl y)
      · exact .inr y
theorem Po.keeps (q : Po R Rs mu ow H env1 σ ow1 os1 H1) (s : ES R H Rs env σ ow) {d : List D} {v : List V} (r : RPs R H (Avd ow Rs) d v os) (ho : ∀ a ∈ os, Rs a) : RPs R H1 (Avd ow1 (Tm Rs os1)) d v os := by
  refine r.chg (S := fun a => mu = true ∧ Ow ow a) ⟨fun a o e z => q.fr a o e fun y w => z ⟨y, w⟩, fun a o z e => ?_⟩ (fun a z => .inl z.2) (fun a z => ?_) fun a ha z => s.rs a (ho a ha) z.2
  · obtain ⟨o', e', m⟩ := s.ow_some z.2
    rw [e] at e'; cases e'; exact m
  · rcases z with z | z | z
    · rcases q.new a (.inl z) with y | y
      · exact .inl (.inl y)
      · exact .inr y
    · exact .inl (.inr z)
    · rcases q.new a (.inr z) with y | y
      · exact .inl (.inl y)
      · exact .inr y

/-- what an evaluation's end does with a result that owns nothing -/
def setO (ow : Own) (i : Nat) (os : List Addr) : Own := fun j => if j = i then os else ow j
theorem setO_same {i : Nat} : setO ow i os i = os := if_pos rfl
theorem setO_ne {i j : Nat} (h : j ≠ i) : setO ow i os j = ow j := if_neg h
theorem Ow_setO {i : Nat} {a : Addr} : Ow (setO ow i os) a ↔ a ∈ os ∨ ∃ j, j ≠ i ∧ a ∈ ow j := by
  constructor
  · rintro ⟨j, hj⟩
    by_cases e : j = i
    · subst e; rw [setO_same] at hj; exact .inl hj
    · rw [setO_ne e] at hj; exact .inr ⟨j, e, hj⟩
  · rintro (h | ⟨j, e, hj⟩)
    · exact ⟨i, by rw [setO_same]; exact h⟩
    · exact ⟨j, by rw [setO_ne e]; exact hj⟩

/-- THE STORE: slot i takes d', borne by v'; the heap may have changed at what slot i owned and at temporaries; what d' owns was slot i's, a temporary's, or is new -/
theorem ES.put {S : Av} {i : Nat} {d' : D} {v' : V} (s : ES R H Rs env σ ow) (hi : i < env.length) (c : Chg S H H') (hS : ∀ a, S a → a ∈ ow i ∨ Rs a) (ht : ∀ a, H a ≠ none → H' a ≠ none)
    (h1 : ∀ a, Rs' a → Rs a ∧ ¬ a ∈ os) (hos : ∀ a ∈ os, a ∈ ow i ∨ Rs a ∨ H a = none) (hn : os.Nodup) (r : RP R H' (Avd (setO ow i os) Rs') d' v' os) : ES R H' Rs' (env.set i (some d')) (σ.set i (some v')) (setO ow i os) where
  len := by simp [s.len]
  rep := fun j d e => by
    by_cases hj : j = i
    · subst hj
      have : d = d' := by
        rw [List.getElem?_set_self hi] at e
        simpa using e.symm
      subst this
      exact ⟨v', List.getElem?_set_self (by rw [← s.len]; exact hi), by rw [setO_same]; exact r⟩
    · rw [List.getElem?_set_ne (Ne.symm hj)] at e
      obtain ⟨v, e1, r1⟩ := s.rep j d e
      refine ⟨v, by rw [List.getElem?_set_ne (Ne.symm hj)]; exact e1, ?_⟩
      rw [setO_ne hj]
      refine r1.chg c (fun a z => ?_) (fun a z => ?_) fun a ha z => ?_
      · rcases hS a z with y | y
        · exact .inl ⟨i, y⟩
        · exact .inr y
      · rcases z with z | z
        · rcases Ow_setO.mp z with y | ⟨k, _, y⟩
          · rcases hos a y with w | w | w
            · exact .inl (.inl ⟨i, w⟩)
            · exact .inl (.inr w)
            · exact .inr w
          · exact .inl (.inl ⟨k, y⟩)
        · exact .inl (.inr (h1 a z).1)
      · rcases hS a z with y | y
        · exact hj (s.dj j i a ha y)
        · exact s.rs a y ⟨j, ha⟩
  nil := fun j h => by
    by_cases hj : j = i
    · subst hj
      exact absurd (List.getElem?_set_self hi) (h d')
    · rw [setO_ne hj]
      exact s.nil j fun d e => h d (by rw [List.getElem?_set_ne (Ne.symm hj)]; exact e)
  nd := fun j => by
    by_cases hj : j = i
    · subst hj; rw [setO_same]; exact hn
    · rw [setO_ne hj]; exact s.nd j
  dj := fun j k a hj hk => by
    have key : ∀ m, m ≠ i → a ∈ ow m → a ∈ os → False := fun m hm h2 h3 => by
      rcases hos a h3 with w | w | w
      · exact hm (s.dj m i a h2 w)
      · exact s.rs a w ⟨m, h2⟩
      · obtain ⟨o, e, _⟩ := s.ow_some ⟨m, h2⟩
        rw [w] at e; cases e
    by_cases e1 : j = i
    · subst e1
      rw [setO_same] at hj
      by_cases e2 : k = j
      · exact e2.symm
      · rw [setO_ne e2] at hk
        exact (key k e2 hk hj).elim
    · rw [setO_ne e1] at hj
      by_cases e2 : k = i
      · subst e2
        rw [setO_same] at hk
        exact (key j e1 hj hk).elim
      · rw [setO_ne e2] at hk
        exact s.dj j k a hj hk
  rs := fun a q w => by
    rcases Ow_setO.mp w with y | ⟨k, _, y⟩
    · exact (h1 a q).2 y
    · exact s.rs a (h1 a q).1 ⟨k, y⟩
  rt := fun a q => ht a (s.rt a (h1 a q).1)
end
end VS
set_option Elab.async false
set_option linter.all false
set_option maxRecDepth 100000
set_option maxHeartbeats 2000000
/-! VSc: the code and what it does to trees. -/
namespace VS
open PySem PySem.Spec PyProof.Rows L2

inductive Bop where
  | add | sub | mul | fdiv | mod | pow | xor
  deriving DecidableEq
inductive Cop where
  | eq | ne | lt | le | gt | ge | is | isn | inn | nin
  deriving DecidableEq
/-- built-in functions and types called by name -/
inductive Blt where
  | len | int | tuple | list | sum | min | max | all | any | abs | range | isinst | sorted | gcd
  deriving DecidableEq
/-- methods of lists -/
inductive Lm where
  | append | pop | reverse | extend
  deriving DecidableEq

mutual
inductive E where
  | never
  | var (i : Nat)
  | con (d : D)
  | glo (d : D)
  | neg (a : E)
  | bin (o : Bop) (a b : E)
  | cmp (o : Cop) (a b : E)
  | cmp2 (o p : Cop) (a b c : E)
  | bool (isAnd : Bool) (as : Es)
  | not (a : E)
  | ite (c a b : E)
  | call (f : Nat) (as : Es) (ks : List Str) (kv : Es)
  | new (c : Nat) (as : Es) (ks : List Str) (kv : Es)
  | meth (o : E) (m : Str) (as : Es)
  | attr (o : E) (f : Str)
  | xat (i : Nat) (f : Str)
  | sub (o i : E)
  | slc (o lo hi : E)
  | tup (as : Es)
  | lst (as : Es)
  | comp (elt : E) (ts : List Nat) (tu : Bool) (it : I) (ifs : Es)
  | blt (b : Blt) (as : Es)
  | lm (m : Lm) (o : E) (as : Es)
  | frz (a : E)
inductive Es where
  | nil
  | cons (e : E) (es : Es)
inductive I where
  | val (e : E)
  | rng (as : Es)
  | zip (a b : E)
  | enu (a : E)
end
mutual
inductive S where
  | never
  | asg (i : Nat) (e : E)
  | asgT (is : List Nat) (e : E)
  | par (i j : Nat) (a b : E)
  | asgF (fs : List Str) (tu : Bool) (e : E)
  | asgS (o i e : E)
  | aug (i : Nat) (o : Bop) (e : E)
  | augS (o i : E) (p : Bop) (e : E)
  | ifS (c : E) (a b : B)
  | forS (ts : List Nat) (tu : Bool) (it : I) (body : B)
  | whS (c : E) (body : B)
  | ret (e : E)
  | retN
  | rai (c : Nat) (as : Es)
  | tryS (body : B) (hs : Hs)
  | ex (e : E)
  | pass | brk | cnt
inductive B where
  | nil
  | cons (s : S) (b : B)
inductive Hs where
  | nil
  | cons (c : Nat) (v : Option Nat) (b : B) (hs : Hs)
end

/-! ### the table -/
/-- where a parameter's value comes from: the j-th positional value, the j-th keyword's value, a default -/
inductive Srs where
  | pos (j : Nat) | kw (j : Nat) | dfl (d : D)
/-- a form of call: n positional values, the keywords' names, the parameters' sources -/
structure Shp where
  n : Nat
  ks : List Str
  src : List Srs
structure FnI where
  np : Nat
  ns : Nat
  mu : Bool
  code : B
  shapes : List Shp
structure ClsI where
  nf : Nat
  fl : List Str
  init : Option Nat
  props : List (Str × Nat)
  meths : List (Str × Nat)
  item : Option Nat
  ex : Bool
structure Tab where
  fns : List FnI
  cls : List ClsI
  subs : List (Nat × Nat)

inductive Rr (α : Type) where
  | ok (a : α)
  | ex (c : Nat) (xs : List D) (env : VE)
  | no
/-- an end's type that names what comes next: the rewriting stays out of it -/
abbrev RB {α β : Type} (_ : α → Rr β) : Type := Rr β
def Rr.bind {α β : Type} (r : Rr α) (f : α → Rr β) : RB f := match r with
  | .ok a => f a
  | .ex c xs env => .ex c xs env
  | .no => .no
inductive CR where
  | ok (d : D) (fin : Option D)
  | ex (c : Nat) (xs : List D)
  | no
inductive Fl where
  | nx (env : VE) | rt (d : D) (env : VE) | bk (env : VE) | ct (env : VE)
  | ex (c : Nat) (xs : List D) (env : VE)
  | no
abbrev RF {α : Type} (_ : α → Fl) : Type := Fl
def Rr.fl {α : Type} (r : Rr α) (f : α → Fl) : RF f := match r with
  | .ok a => f a
  | .ex c xs env => .ex c xs env
  | .no => .no

/-! ### operations -/
def bitsOk (a b : Int) : Bool := decide ((-(2 ^ 64) < a ∧ a < 2 ^ 64) ∨ (-(2 ^ 64) < b ∧ b < 2 ^ 64))
def lenOk (n : Nat) : Bool := decide (n ≤ 16000000)
def smallI (i : Int) : Bool := decide (-4000000000000000000 ≤ i) && decide (i ≤ 4000000000000000000)
/-! the data that == compares -/
mutual
def D.py : D → Option PyData
  | .non => some .none
  | .bl b => some (.bool b)
  | .int i => some (.int i)
  | .str s => some (.str ⟨s.toArray⟩)
  | .tup xs => (D.pys xs).map .tuple
  | .lst _ xs => (D.pys xs).map .list
  | _ => none
def D.pys : List D → Option (List PyData)
  | [] => some []
  | d :: ds => (D.py d).bind fun p => (D.pys ds).map (p :: ·)
end
def eqD (a b : D) : Option Bool := match a.py, b.py with
  | some p, some q => if SeqAt.shaped p && SeqAt.shaped q then some (PyData.eqv p q) else none
  | _, _ => none
/-- a flat value of numbers, texts, None -/
def D.flat : D → Bool
  | .non | .int _ | .str _ | .bl _ => true
  | _ => false
def binD : Bop → D → D → Option D
  | .add, .int a, .int b => some (.int (a + b))
  | .sub, .int a, .int b => some (.int (a - b))
  | .mul, .int a, .int b => if bitsOk a b then some (.int (a * b)) else none
  | .fdiv, .int a, .int b => if decide (0 < b) && decide (b < 1073741824) then some (.int (a / b)) else none
  | .mod, .int a, .int b => if decide (0 < b) then some (.int (a % b)) else none
  | .pow, .int a, .int b => if decide (0 ≤ b) && decide (b ≤ 100000) && decide (a.natAbs < 2 ^ 60) then some (.int (a ^ b.toNat)) else none
  | .add, .str a, .str b => if lenOk (a.length + b.length) then some (.str (a ++ b)) else none
  | .add, .lst _ a, .lst _ b => if lenOk (a.length + b.length) && D.allFz a && D.allFz b then some (.lst true (a ++ b)) else none
  | .add, .tup a, .tup b => if lenOk (a.length + b.length) && !a.isEmpty then some (.tup (a ++ b)) else none
  | .mul, .tup a, .int n => if decide (1 ≤ n) && decide (n ≤ 1000) && decide (a.length ≤ 1000) && !a.isEmpty then some (.tup (List.replicate n.toNat a).flatten) else none
  | _, _, _ => none
def cmpD : Cop → D → D → Option Bool
  | .eq, a, b => eqD a b
  | .ne, a, b => (eqD a b).map (!·)
  | .lt, .int a, .int b => some (decide (a < b))
  | .le, .int a, .int b => some (decide (a ≤ b))
  | .gt, .int a, .int b => some (decide (b < a))
  | .ge, .int a, .int b => some (decide (b ≤ a))
  | _, _, _ => none
def D.isNon : D → Bool
  | .non => true
  | _ => false
def truth : D → Option Bool
  | .bl b => some b
  | .non => some false
  | .int i => some (decide (i ≠ 0))
  | .lst _ xs => some (!xs.isEmpty)
  | .tup xs => some (!xs.isEmpty)
  | _ => none
/-- Python's index -/
def ixD (xs : List D) (i : Int) : Option D := atI xs i
def items : D → Option (List D)
  | .tup xs => some xs
  | .lst _ xs => some xs
  | _ => none
def D.ints : List D → Option (List Int)
  | [] => some []
  | .int i :: ds => (D.ints ds).map (i :: ·)
  | _ => none
def D.bls : List D → Option (List Bool)
  | [] => some []
  | .bl b :: ds => (D.bls ds).map (b :: ·)
  | _ => none
def rangeD (lo hi : Int) : List D := (List.range (hi - lo).toNat).map fun (k : Nat) => D.int (lo + k)
def zipD : List D → List D → List D
  | a :: as, b :: bs => .tup [a, b] :: zipD as bs
  | _, _ => []
def enuD : Nat → List D → List D
  | _, [] => []
  | n, a :: as => .tup [.int n, a] :: enuD (n + 1) as
/-- the class that isinstance asks for -/
def isinst1 : D → D → Option Bool
  | .int _, .ty "int" => some true
  | .bl _, .ty "int" => some true
  | .non, .ty "int" => some false
  | .str _, .ty "int" => some false
  | .tup _, .ty "int" => some false
  | .lst _ _, .ty "int" => some false
  | .obj _ _ _, .ty "int" => some false
  | .bl _, .ty "bool" => some true
  | .int _, .ty "bool" => some false
  | .non, .ty "bool" => some false
  | .str _, .ty "bool" => some false
  | .tup _, .ty "bool" => some false
  | .lst _ _, .ty "bool" => some false
  | .obj _ _ _, .ty "bool" => some false
  | .lst _ _, .ty "list" => some true
  | .tup _, .ty "list" => some false
  | .int _, .ty "list" => some false
  | .bl _, .ty "list" => some false
  | .non, .ty "list" => some false
  | .str _, .ty "list" => some false
  | .obj _ _ _, .ty "list" => some false
  | .tup _, .ty "tuple" => some true
  | .lst _ _, .ty "tuple" => some false
  | .int _, .ty "tuple" => some false
  | .bl _, .ty "tuple" => some false
  | .non, .ty "tuple" => some false
  | .str _, .ty "tuple" => some false
  | .obj _ _ _, .ty "tuple" => some false
  | .str _, .ty "str" => some true
  | .int _, .ty "str" => some false
  | .bl _, .ty "str" => some false
  | .non, .ty "str" => some false
  | .tup _, .ty "str" => some false
  | .lst _ _, .ty "str" => some false
  | .obj _ _ _, .ty "str" => some false
  | .obj _ c _, .cls k => some (decide (c = k))
  | .int _, .cls _ => some false
  | .bl _, .cls _ => some false
  | .non, .cls _ => some false
  | .str _, .cls _ => some false
  | .tup _, .cls _ => some false
  | .lst _ _, .cls _ => some false
  | _, _ => none
/-- a list or a tuple? -/
def isLT : D → Option Bool
  | .lst _ _ => some true
  | .tup _ => some true
  | .int _ => some false
  | .bl _ => some false
  | .non => some false
  | .str _ => some false
  | .obj _ _ _ => some false
  | _ => none
def bltD : Blt → List D → Option D
  | .len, [.lst _ xs] => some (.int xs.length)
  | .len, [.tup xs] => some (.int xs.length)
  | .len, [.str s] => if lenOk s.length then some (.int s.length) else none
  | .int, [.int i] => some (.int i)
  | .tuple, [.lst _ xs] => if D.allFz xs then some (.tup xs) else none
  | .tuple, [.tup xs] => some (.tup xs)
  | .list, [.lst _ xs] => if D.allFz xs then some (.lst true xs) else none
  | .list, [.tup xs] => if D.allFz xs then some (.lst true xs) else none
  | .list, [.rng a b] => if smallI a && (smallI b && decide ((b - a).toNat ≤ 16000000)) then some (.lst true (rangeD a b)) else none
  | .sum, [.lst _ xs] => (D.ints xs).map fun l => .int l.sum
  | .min, [.int a, .int b] => some (.int (if b < a then b else a))
  | .max, [.int a, .int b] => some (.int (if b > a then b else a))
  | .all, [.lst _ xs] => (D.bls xs).map fun l => .bl (l.all id)
  | .any, [.lst _ xs] => (D.bls xs).map fun l => .bl (l.any id)
  | .abs, [.int a] => some (.int (if a < 0 then -a else a))
  | .range, [.int b] => if smallI b then some (.rng 0 b) else none
  | .range, [.int a, .int b] => if smallI a && smallI b then some (.rng a b) else none
  | .isinst, [a, .tup [.ty "list", .ty "tuple"]] => (isLT a).map .bl
  | .isinst, [a, .ty n] => (isinst1 a (.ty n)).map .bl
  | .isinst, [a, .cls c] => (isinst1 a (.cls c)).map .bl
  | _, _ => none

/-! ### slots -/
def getV (env : VE) (i : Nat) : Option D := match env[i]? with
  | some (some d) => some d
  | _ => none
def setV (env : VE) (i : Nat) (d : D) : VE := env.set i (some d)
def delV (env : VE) (i : Nat) : VE := env.set i none
/-- a name read: what it owns is given up -/
def readV (env : VE) (i : Nat) : Rr (D × VE) := match getV env i with
  | some d => if d.isFz then .ok (d, env) else .ok (d.fz, setV env i d.fz)
  | none => .no
def optR {α : Type} : Option α → Rr α
  | some a => .ok a
  | none => .no
def setTs (env : VE) : List Nat → List D → Option VE
  | [], [] => some env
  | i :: is, d :: ds => setTs (setV env i d) is ds
  | _, _ => none
/-- a target: one name, or some names of a tuple or list of as many items (which own nothing) -/
def setT (env : VE) (ts : List Nat) (tu : Bool) (d : D) : Option VE := match tu, ts with
  | false, [i] => some (setV env i d)
  | true, ts => match d with
    | .tup xs => setTs env ts xs
    | _ => none
  | _, _ => none
def wipeV (env : VE) : List Nat → VE
  | [] => env
  | i :: is => delV (wipeV env is) i
/-- the block's own names as they were -/
def backV (env0 env : VE) : List Nat → VE
  | [] => env
  | i :: is => (backV env0 env is).set i ((env0[i]?).getD none)
/-- the block's own names own nothing ahead -/
def freeV (env : VE) : List Nat → Bool
  | [] => true
  | i :: is => (match getV env i with
    | some d => d.isFz
    | none => true) && freeV env is

/-- the arguments in the parameters' order -/
def fillS : List Srs → List D → List D → Option (List D)
  | [], _, _ => some []
  | .pos j :: r, ps, ks => (ps[j]?).bind fun d => (fillS r ps ks).map (d :: ·)
  | .kw j :: r, ps, ks => (ks[j]?).bind fun d => (fillS r ps ks).map (d :: ·)
  | .dfl d :: r, ps, ks => (fillS r ps ks).map (d :: ·)
def findS (n : Nat) (ks : List Str) : List Shp → Option Shp
  | [] => none
  | s :: r => if s.n = n ∧ s.ks = ks then some s else findS n ks r
/-! ### places: a name, items of it; read without giving anything up -/
mutual
def muE (T : Tab) : E → Bool
  | .never => false | .var _ => false | .con _ => false | .glo _ => false | .xat _ _ => false
  | .neg a => muE T a
  | .bin _ a b => muE T a || muE T b
  | .cmp _ a b => muE T a || muE T b
  | .cmp2 _ _ a b c => muE T a || muE T b || muE T c
  | .bool _ as => muEs T as
  | .not a => muE T a
  | .ite c a b => muE T c || muE T a || muE T b
  | .call f as _ kv => (match T.fns[f]? with | some fn => fn.mu | none => false) || muEs T as || muEs T kv
  | .new _ as _ kv => muEs T as || muEs T kv
  | .meth o _ as => muE T o || muEs T as
  | .attr o _ => muE T o
  | .sub o i => muE T o || muE T i
  | .slc o lo hi => muE T o || muE T lo || muE T hi
  | .tup as => muEs T as
  | .lst as => muEs T as
  | .comp e _ _ it ifs => muE T e || muI T it || muEs T ifs
  | .blt _ as => muEs T as
  | .lm _ _ _ => true
  | .frz a => muE T a
def muEs (T : Tab) : Es → Bool
  | .nil => false
  | .cons e es => muE T e || muEs T es
def muI (T : Tab) : I → Bool
  | .val e => muE T e
  | .rng as => muEs T as
  | .zip a b => muE T a || muE T b
  | .enu a => muE T a
end
def intB : Bop → Int → Int → Option Int
  | .add, a, b => some (a + b)
  | .sub, a, b => some (a - b)
  | .mul, a, b => if bitsOk a b then some (a * b) else none
  | .fdiv, a, b => if decide (0 < b) && decide (b < 1073741824) then some (a / b) else none
  | .mod, a, b => if decide (0 < b) then some (a % b) else none
  | _, _, _ => none
mutual
def peek : E → VE → Option D
  | .var i, env => getV env i
  | .sub o i, env => (peek o env).bind fun d => (smp i env).bind fun k => (items d).bind fun xs => ixD xs k
  | _, _ => none
def smp : E → VE → Option Int
  | .con d, _ => match d with | .int k => some k | _ => none
  | .var i, env => match getV env i with | some (.int k) => some k | _ => none
  | .neg a, env => (smp a env).map fun k => -k
  | .bin o a b, env => (smp a env).bind fun x => (smp b env).bind fun y => intB o x y
  | .sub o i, env => (peek o env).bind fun d => (smp i env).bind fun k => (items d).bind fun xs => match ixD xs k with | some (.int n) => some n | _ => none
  | .blt b as, env => match b with | .len => smpLen as env | _ => none
  | _, _ => none
def smpLen : Es → VE → Option Int
  | .cons p .nil, env => (peek p env).bind fun d => (items d).map fun xs => (xs.length : Int)
  | _, _ => none
end
def rootE : E → Option Nat
  | .var i => some i
  | .sub o _ => rootE o
  | _ => none
/-- the place's value changed by f; the lists on the way are owned -/
def updP : E → VE → (D → Option D) → Option VE
  | .var i, env, f => (getV env i).bind fun d => (f d).map fun d' => setV env i d'
  | .sub o i, env, f => (smp i env).bind fun k => updP o env fun d => match d with
    | .lst true xs => if 0 ≤ k ∧ k < xs.length then (xs[k.toNat]?).bind fun x => (f x).map fun y => .lst true (xs.set k.toNat y) else none
    | _ => none
  | _, _, _ => none
def isPl : E → Bool
  | .var _ => true
  | .sub _ _ => true
  | _ => false
def lenEs : Es → Nat
  | .nil => 0
  | .cons _ es => lenEs es + 1
def frzRoot (e : E) (env : VE) : Option VE := (rootE e).bind fun i => (getV env i).map fun d => setV env i d.fz

/-- each parameter the positional value of its place -/
def triv : List Srs → Nat → Bool
  | [], _ => true
  | .pos j :: r, k => decide (j = k) && triv r (k + 1)
  | _ :: _, _ => false
def noSelf : List Srs → Bool
  | [] => true
  | .pos j :: r => decide (j ≠ 0) && noSelf r
  | _ :: r => noSelf r
/-- the first parameter is the first positional value, no other one is -/
def selfS : List Srs → Bool
  | .pos j :: r => decide (j = 0) && noSelf r
  | _ => false
/-- n positional values, each for the parameter of its place -/
def hasTriv (fn : FnI) (n : Nat) : Bool := match findS n [] fn.shapes with
  | some s => triv s.src 0 && decide (s.src.length = n)
  | none => false
/-! ### what the code does -/
def findF (x : Str) : List (Str × Nat) → Option Nat
  | [] => none
  | (y, n) :: r => if x = y then some n else findF x r
def idxF (x : Str) : List Str → Option Nat
  | [] => none
  | y :: r => if x = y then some 0 else (idxF x r).map (· + 1)
section
variable (T : Tab) (call : Nat → List D → CR)
/-- a call of the def f that changes none of its arguments -/
def callR (f : Nat) (ds : List D) (env : VE) : Rr (D × VE) := match T.fns[f]? with
  | some fn => if fn.mu || (!D.allFz ds || decide (ds.length ≠ fn.np)) then .no else match call f ds with
    | .ok d _ => .ok (d, env)
    | .ex c xs => .ex c xs env
    | .no => .no
  | none => .no
def callP (f : Nat) (ds : List D) (env : VE) : Rr (D × VE) := match T.fns[f]? with
  | some fn => if hasTriv fn ds.length then callR T call f ds env else .no
  | none => .no
/-- no exception -/
def okOnly {α : Type} (r : Rr α) : Rr α := match r with
  | .ok a => .ok a
  | _ => .no
/-- x.f -/
def attrD (d : D) (f : Str) (env : VE) : Rr (D × VE) := match d with
  | .obj _ c vs => match T.cls[c]? with
    | some cl => match idxF f cl.fl with
      | some j => match vs[j]? with
        | some d => if d.isFz then .ok (d, env) else .no
        | none => .no
      | none => match findF f cl.props with
        | some g => if d.isFz then okOnly (callP T call g [d] env) else .no
        | none => .no
    | none => .no
  | _ => .no
/-- o[i], o a list, a tuple, an object with an own item -/
def subD (d k : D) (env : VE) : Rr (D × VE) := match d with
  | .obj _ c _ => match T.cls[c]? with
    | some cl => match cl.item with
      | some g => callP T call g [d, k] env
      | none => .no
    | none => .no
  | d => match k with
    | .int i => optR ((items d).bind fun xs => (ixD xs i).map fun x => (x, env))
    | _ => .no
def slcI : D → Option (Option Int)
  | .non => some none
  | .int i => some (some i)
  | _ => none
def cutD (xs : List D) (lo hi : Option Int) : List D := (xs.drop (HT.sIx xs.length 0 lo)).take (HT.sIx xs.length xs.length hi - HT.sIx xs.length 0 lo)
def slcD (d lo hi : D) : Option D := (slcI lo).bind fun l => (slcI hi).bind fun h => match d with
  | .lst _ xs => if D.allFz xs then some (.lst true (cutD xs l h)) else none
  | .tup xs => some (.tup (cutD xs l h))
  | _ => none
/-- two values compared -/
def evC (o : Cop) (a b : D) (env : VE) : Rr (D × VE) := match o with
  | .is => match b with
    | .non => .ok (.bl a.isNon, env)
    | _ => .no
  | .isn => match b with
    | .non => .ok (.bl (!a.isNon), env)
    | _ => .no
  | o => optR ((cmpD o a b).map fun r => (.bl r, env))
/-- a comprehension's turns: tt tests, te the element -/
def compL (ts : List Nat) (tu : Bool) (tt : VE → Rr (Bool × VE)) (te : VE → Rr (D × VE)) : List D → List D → VE → Rr (List D × VE)
  | [], acc, env => .ok (acc, env)
  | x :: xs, acc, env => match setT env ts tu x with
    | none => .no
    | some env1 => match tt env1 with
      | .ok (true, env2) => match te env2 with
        | .ok (d, env3) => if lenOk (acc.length + 1) then compL ts tu tt te xs (acc ++ [d]) (wipeV env3 ts) else .no
        | _ => .no
      | .ok (false, env2) => compL ts tu tt te xs acc (wipeV env2 ts)
      | _ => .no
/-- a for's turns -/
def forL (ts : List Nat) (tu : Bool) (body : VE → Fl) : List D → VE → Fl
  | [], env => .nx env
  | x :: xs, env => match setT env ts tu x with
    | none => .no
    | some env1 => match body env1 with
      | .nx e2 => forL ts tu body xs e2
      | .ct e2 => forL ts tu body xs e2
      | .bk e2 => .nx e2
      | r => r
def whL (tt : VE → Rr (Bool × VE)) (body : VE → Fl) : Nat → VE → Fl
  | 0, _ => .no
  | n + 1, env => match tt env with
    | .ok (true, e1) => match body e1 with
      | .nx e2 => whL tt body n e2
      | .ct e2 => whL tt body n e2
      | .bk e2 => .nx e2
      | r => r
    | .ok (false, e1) => .nx e1
    | .ex c xs e => .ex c xs e
    | .no => .no
/-- an operand that is only read: of a place nothing is given up -/
def viaA (e : E) (k : VE → Rr (D × VE)) (env : VE) : Rr (D × VE) := match e with
  | .var i => optR ((getV env i).map fun d => (d, env))
  | .sub o i => match peek (.sub o i) env with
    | some d => .ok (d, env)
    | none => k env
  | _ => k env
/-- one way; where it comes to nothing, another -/
def orR {α : Type} (a b : Rr α) : Rr α := match a with
  | .no => b
  | r => r
/-- the value's truth, in a test -/
def fin (m : Bool) (r : Rr (D × VE)) : Rr (D × VE) := if m then r.bind fun p => optR ((truth p.1).map fun b => (.bl b, p.2)) else r
mutual
/-- m: as a test -/
def evX (m : Bool) : E → VE → Rr (D × VE)
  | .never, _ => .no
  | .var i, env => if m then fin m (optR ((getV env i).map fun d => (d, env))) else readV env i
  | .con d, env => fin m (.ok (d, env))
  | .glo d, env => fin m (.ok (d, env))
  | .xat i f, env => fin m (match getV env i with
    | some (.exv c vs) => match T.cls[c]? with
      | some cl => match idxF f cl.fl with
        | some j => optR ((vs[j]?).map fun d => (d, env))
        | none => .no
      | none => .no
    | _ => .no)
  | .frz a, env => if m then evX true a env else (evX false a env).bind fun p => .ok (p.1.fz, p.2)
  | .neg a, env => fin m ((evX false a env).bind fun p => match p.1 with | .int i => .ok (.int (-i), p.2) | _ => .no)
  | .bin o a b, env => fin m (orR ((viaA a (fun v => evX false a v) env).bind fun p => if p.1.isFz || !muE T b || !isPl a then (viaA b (fun v => evX false b v) p.2).bind fun q => optR ((binD o p.1 q.1).map fun d => (d, q.2)) else .no)
      ((evX false a env).bind fun p => (evX false b p.2).bind fun q => optR ((binD o p.1.fz q.1.fz).map fun d => (d, q.2))))
  | .cmp o a b, env => (viaA a (fun v => evX false a v) env).bind fun p => if p.1.isFz || !muE T b || !isPl a then (viaA b (fun v => evX false b v) p.2).bind fun q => evC o p.1 q.1 q.2 else .no
  | .cmp2 o p a b c, env => (evX false a env).bind fun x => (evX false b x.2).bind fun y => match cmpD o x.1 y.1 with
    | some true => (evX false c y.2).bind fun z => optR ((cmpD p y.1 z.1).map fun r => (.bl r, z.2))
    | some false => .ok (.bl false, y.2)
    | none => .no
  | .bool k as, env => evB m k as env
  | .not a, env => if m then (evX true a env).bind fun p => match p.1 with | .bl b => .ok (.bl (!b), p.2) | _ => .no else (evX false a env).bind fun p => optR ((truth p.1).map fun b => (.bl (!b), p.2))
  | .ite c a b, env => (evX true c env).bind fun p => match p.1 with | .bl k => if k then evX m a p.2 else evX m b p.2 | _ => .no
  | .call f as ks kv, env => fin m (match T.fns[f]? with
    | none => .no
    | some fn => if fn.mu then
        (match as, ks, kv with
        | .cons (.var i) es, [], .nil => if (getV env i).isNone then .no else (evEs es env).bind fun p => if hasTriv fn (p.1.length + 1) && decide (p.1.length + 1 = fn.np) then
              (match getV p.2 i with
              | some (.lst true xs) => match call f (.lst true xs :: D.fzs p.1) with
                | .ok d (some d') => .ok (d, setV p.2 i d')
                | _ => .no
              | _ => .no)
            else .no
        | _, _, _ => .no)
      else (evEs as env).bind fun p => (evEs kv p.2).bind fun q => match findS (lenEs as) ks fn.shapes with
        | some s => match fillS s.src (D.fzs p.1) (D.fzs q.1) with
          | some ds => callR T call f ds q.2
          | none => .no
        | none => .no)
  | .new c as ks kv, env => fin m ((evEs as env).bind fun p => (evEs kv p.2).bind fun q => match T.cls[c]? with
    | none => .no
    | some cl => match cl.init with
      | none => .no
      | some f => match T.fns[f]? with
        | none => .no
        | some fn => match findS (lenEs as + 1) ks fn.shapes with
          | some sh => if fn.mu && (selfS sh.src && !cl.ex) then
              (match fillS sh.src (.obj true c [] :: D.fzs p.1) (D.fzs q.1) with
              | some ds => if ds.length ≠ fn.np then .no else match call f ds with
                | .ok .non (some d) => .ok (d.fz, q.2)
                | .ex k xs => .ex k xs q.2
                | _ => .no
              | none => .no)
            else .no
          | none => .no)
  | .meth o x as, env => fin m ((evX false o env).bind fun p => (evEs as p.2).bind fun q => match p.1 with
    | .obj w c vs => match T.cls[c]? with
      | some cl => match findF x cl.meths with
        | some f => match T.fns[f]? with
          | some fn => match findS (lenEs as + 1) [] fn.shapes with
            | some s => match fillS s.src (.obj false c (D.fzs vs) :: D.fzs q.1) [] with
              | some ds => callR T call f ds q.2
              | none => .no
            | none => .no
          | none => .no
        | none => .no
      | none => .no
    | _ => .no)
  | .attr o f, env => fin m ((viaA o (fun v => evX false o v) env).bind fun p => attrD T call p.1 f p.2)
  | .sub o i, env => fin m (match peek (.sub o i) env with
    | some d => if d.isFz then .ok (d, env) else if m then .ok (d, env) else optR ((frzRoot o env).map fun e => (d.fz, e))
    | none => (evX false o env).bind fun p => (evX false i p.2).bind fun q => subD T call p.1 q.1 q.2)
  | .slc o lo hi, env => fin m ((viaA o (fun v => evX false o v) env).bind fun p => if p.1.isFz || !(muE T lo || muE T hi) then (evX false lo p.2).bind fun l => (evX false hi l.2).bind fun h => optR ((slcD p.1 l.1 h.1).map fun d => (d, h.2)) else .no)
  | .tup as, env => fin m ((evEs as env).bind fun p => if lenOk p.1.length then .ok (.tup (D.fzs p.1), p.2) else .no)
  | .lst as, env => fin m ((evEs as env).bind fun p => if lenOk p.1.length then .ok (.lst true p.1, p.2) else .no)
  | .comp e ts tu it ifs, env => fin m ((evI it env).bind fun p => if freeV p.2 ts then
      (compL ts tu (fun v => evTs ifs v) (fun v => evX false e v) p.1 [] (wipeV p.2 ts)).bind fun r => .ok (.lst true r.1, backV p.2 r.2 ts)
    else .no)
  | .blt b as, env => fin m ((evAs as env).bind fun p => optR ((bltD b p.1).map fun d => (d, p.2)))
  | .lm x o as, env => fin m (match x, as with
    | .pop, .nil => match peek o env with
      | some (.lst true xs) => match xs.getLast? with
        | some x => if x.isFz then optR ((updP o env fun _ => some (.lst true xs.dropLast)).map fun e => (x, e)) else .no
        | none => .no
      | _ => .no
    | .reverse, .nil => match peek o env with
      | some (.lst true xs) => if D.allFz xs then optR ((updP o env fun _ => some (.lst true xs.reverse)).map fun e => (.non, e)) else .no
      | _ => .no
    | .append, .cons e .nil => match o with
      | .var i => match getV env i with
        | some (.lst true _) => (evX false e env).bind fun p => match getV p.2 i with
          | some (.lst true xs) => if lenOk (xs.length + 1) then .ok (.non, setV p.2 i (.lst true (xs ++ [p.1]))) else .no
          | _ => .no
        | _ => .no
      | _ => .no
    | _, _ => .no)
def evEs : Es → VE → Rr (List D × VE)
  | .nil, env => .ok ([], env)
  | .cons e es, env => (evX false e env).bind fun p => (evEs es p.2).bind fun q => .ok (p.1 :: q.1, q.2)
def evAs : Es → VE → Rr (List D × VE)
  | .nil, env => .ok ([], env)
  | .cons e es, env => (viaA e (fun v => evX false e v) env).bind fun p => if p.1.isFz || !muEs T es || !isPl e then (evAs es p.2).bind fun q => .ok (p.1 :: q.1, q.2) else .no
def evTs : Es → VE → Rr (Bool × VE)
  | .nil, env => .ok (true, env)
  | .cons e es, env => (evX true e env).bind fun p => match p.1 with
    | .bl b => if b then evTs es p.2 else .ok (false, p.2)
    | _ => .no
def evB (m : Bool) : Bool → Es → VE → Rr (D × VE)
  | _, .nil, _ => .no
  | _, .cons e .nil, env => evX m e env
  | k, .cons e es, env => (evX m e env).bind fun p => match p.1 with
    | .bl b => if b = k then evB m k es p.2 else .ok (.bl b, p.2)
    | _ => .no
def evI : I → VE → Rr (List D × VE)
  | .val e, env => (evX false e env).bind fun p => match p.1 with
    | .lst _ xs => .ok (D.fzs xs, p.2)
    | .tup xs => .ok (xs, p.2)
    | .rng lo hi => if smallI lo && smallI hi then .ok (rangeD lo hi, p.2) else .no
    | _ => .no
  | .rng as, env => (evEs as env).bind fun p => match p.1 with
    | [.int b] => if smallI b then .ok (rangeD 0 b, p.2) else .no
    | [.int a, .int b] => if smallI a && smallI b then .ok (rangeD a b, p.2) else .no
    | _ => .no
  | .zip a b, env => (evX false a env).bind fun p => (evX false b p.2).bind fun q => match p.1, q.1 with
    | .lst _ xs, .lst _ ys => .ok (zipD (D.fzs xs) (D.fzs ys), q.2)
    | .tup xs, .tup ys => .ok (zipD xs ys, q.2)
    | _, _ => .no
  | .enu a, env => (evX false a env).bind fun p => match p.1 with
    | .lst _ xs => .ok (enuD 0 (D.fzs xs), p.2)
    | .tup xs => .ok (enuD 0 xs, p.2)
    | _ => .no
end
def evT (e : E) (env : VE) : Rr (Bool × VE) := (evX T call true e env).bind fun p => match p.1 with | .bl b => .ok (b, p.2) | _ => .no
end

/-! ### statements -/
section
variable (T : Tab) (call : Nat → List D → CR)
def subC (c k : Nat) : Bool := T.subs.any fun p => p.1 == c && p.2 == k
/-- an exception class with fields of its own -/
def raiC (T : Tab) (c : Nat) : Bool := match T.cls[c]? with
  | some cl => cl.ex && !cl.fl.isEmpty
  | none => false
def excC (c : Nat) : Bool := match T.cls[c]? with
  | some cl => cl.ex
  | none => false
/-- a loop's fuel -/
def whF : Nat := 100000
def asgD (d : D) (f : Str) (x : D) : Option D := match d with
  | .obj true c vs => match T.cls[c]? with
    | some cl => match idxF f cl.fl with
      | some j => if j = vs.length then some (.obj true c (vs ++ [x])) else none
      | none => none
    | none => none
  | _ => none
def asgDs (d : D) : List Str → List D → Option D
  | [], [] => some d
  | f :: fs, x :: xs => (asgD T d f x).bind fun d' => asgDs d' fs xs
  | _, _ => none
mutual
def D.noX : D → Bool
  | .tup xs => D.allNoX xs
  | .lst _ xs => D.allNoX xs
  | .obj _ _ xs => D.allNoX xs
  | .exv _ _ => false
  | _ => true
def D.allNoX : List D → Bool
  | [] => true
  | d :: ds => D.noX d && D.allNoX ds
end
/-- no caught exception stands in the slots -/
def envNoX : VE → Bool
  | [] => true
  | some d :: r => d.noX && envNoX r
  | none :: r => envNoX r
mutual
def evS : S → VE → Fl
  | .never, _ => .no
  | .asg i e, env => (evX T call false e env).fl fun p => .nx (setV p.2 i p.1)
  | .asgT is e, env => (evX T call false e env).fl fun p => match setT p.2 is true p.1 with
    | some v => .nx v
    | none => .no
  | .par i j a b, env => (evX T call false a env).fl fun p => (evX T call false b p.2).fl fun q => if i = j then .no else .nx (setV (setV q.2 i p.1) j q.1)
  | .asgF fs tu e, env => (evX T call false e env).fl fun p => match getV p.2 0 with
    | some d => match tu, fs with
      | false, [f] => match asgD T d f p.1.fz with
        | some d' => .nx (setV p.2 0 d')
        | none => .no
      | true, fs => match p.1 with
        | .tup xs => match asgDs T d fs xs with
          | some d' => .nx (setV p.2 0 d')
          | none => .no
        | _ => .no
      | _, _ => .no
    | none => .no
  | .asgS o i e, env => (evX T call false e env).fl fun p => match smp i p.2 with
    | some k => match updP o p.2 (fun d => match d with
        | .lst true xs => if 0 ≤ k ∧ k < xs.length then some (.lst true (xs.set k.toNat p.1)) else none
        | _ => none) with
      | some v => .nx v
      | none => .no
    | none => .no
  | .aug i o e, env => match getV env i with
    | some (.int a) => (evX T call false e env).fl fun p => match p.1 with
      | .int b => match intB o a b with
        | some r => .nx (setV p.2 i (.int r))
        | none => .no
      | _ => .no
    | _ => .no
  | .augS o i p e, env => match peek (.sub o i) env, smp e env, smp i env with
    | some (.int a), some b, some k => match intB p a b with
      | some r => match updP o env (fun d => match d with
          | .lst true xs => if 0 ≤ k ∧ k < xs.length then some (.lst true (xs.set k.toNat (.int r))) else none
          | _ => none) with
        | some v => .nx v
        | none => .no
      | none => .no
    | _, _, _ => .no
  | .ifS c a b, env => (evT T call c env).fl fun p => if p.1 then evBl a p.2 else evBl b p.2
  | .forS ts tu it body, env => (evI T call it env).fl fun p => forL ts tu (fun v => evBl body v) p.1 p.2
  | .whS c body, env => whL (fun v => evT T call c v) (fun v => evBl body v) whF env
  | .ret e, env => match e with
    | .var i => match getV env i with
      | some d => .rt d (delV env i)
      | none => .no
    | e => (evX T call false e env).fl fun p => .rt p.1 p.2
  | .retN, env => .rt .non env
  | .rai c as, env => if raiC T c then (evEs T call as env).fl fun p => match T.cls[c]? with
    | some cl => if decide (p.1.length = cl.fl.length) then .ex c (D.fzs p.1) p.2 else .no
    | none => .no
    else .no
  | .tryS body hs, env => match evBl body env with
    | .ex c xs e => evHs hs c xs e
    | r => r
  | .ex e, env => (evX T call false e env).fl fun p => .nx p.2
  | .pass, env => .nx env
  | .brk, env => .bk env
  | .cnt, env => .ct env
def evBl : B → VE → Fl
  | .nil, env => .nx env
  | .cons s b, env => match evS s env with
    | .nx v => evBl b v
    | r => r
def evHs : Hs → Nat → List D → VE → Fl
  | .nil, c, xs, env => .ex c xs env
  | .cons k v b hs, c, xs, env => if !(excC T c && excC T k) then .no else if subC T c k then (match v with
      | none => evBl b env
      | some i => match evBl b (setV env i (.exv c xs)) with
        | .nx e => if envNoX (delV e i) then .nx (delV e i) else .no
        | .rt d e => if envNoX (delV e i) && d.noX then .rt d (delV e i) else .no
        | _ => .no)
    else evHs hs c xs env
end
end

/-! ### calls -/
/-- what the first parameter, the caller's, has become -/
def finD (mu : Bool) (env : VE) : Option D := if mu then (match getV env 0 with
  | some (.lst true xs) => some (.lst true xs)
  | some (.obj true c xs) => some (.obj true c xs)
  | _ => none) else none
def argsOk (mu : Bool) (ds : List D) : Bool := if mu then (match ds with
  | .lst true xs :: r => D.allFz r
  | .obj true c xs :: r => D.allFz r
  | _ => false) else D.allFz ds
def callF (T : Tab) : Nat → Nat → List D → CR
  | 0, _, _ => .no
  | n + 1, f, ds => match T.fns[f]? with
    | none => .no
    | some fn => if decide (ds.length = fn.np) && argsOk fn.mu ds then
        match evBl T (callF T n) fn.code (ds.map some ++ List.replicate (fn.ns - fn.np) none) with
        | .rt d env => .ok d (finD fn.mu env)
        | .nx env => .ok .non (finD fn.mu env)
        | .ex c xs _ => .ex c xs
        | _ => .no
      else .no
end VS
set_option Elab.async false
set_option linter.all false
set_option maxRecDepth 100000
set_option maxHeartbeats 2000000
/-! VSd: the given text against the code. -/
namespace VS
open PySem PySem.Spec PyProof.Rows L2

/-! ### looks at the text -/
def vName : Expr → Option Str
  | .Name x _ => some x
  | _ => none
def vConst : Expr → Option Const
  | .Constant k _ _ => some k
  | _ => none
def vUn : Expr → Option (UnaryOp × Expr)
  | .UnaryOp o a _ => some (o, a)
  | _ => none
def vBin : Expr → Option (Operator × Expr × Expr)
  | .BinOp a o b _ => some (o, a, b)
  | _ => none
def vCmp : Expr → Option (CmpOp × Expr × Expr)
  | .Compare a [o] [b] _ => some (o, a, b)
  | _ => none
def vCmp2 : Expr → Option (CmpOp × CmpOp × Expr × Expr × Expr)
  | .Compare a [o, p] [b, c] _ => some (o, p, a, b, c)
  | _ => none
def vBool : Expr → Option (BoolOp × List Expr)
  | .BoolOp o as _ => some (o, as)
  | _ => none
def vIf : Expr → Option (Expr × Expr × Expr)
  | .IfExp c a b _ => some (c, a, b)
  | _ => none
def vCallN : Expr → Option (Str × List Expr × List Keyword)
  | .Call (.Name x _) as ks _ => some (x, as, ks)
  | _ => none
def vCallM : Expr → Option (Expr × Str × List Expr)
  | .Call (.Attribute o m ap) as [] p => if ap.endLine == p.line then some (o, m, as) else none
  | _ => none
def vAttr : Expr → Option (Expr × Str)
  | .Attribute o f _ => some (o, f)
  | _ => none
def isSlc : Expr → Bool
  | .Slice _ _ _ _ => true
  | _ => false
def vSub : Expr → Option (Expr × Expr)
  | .Subscript o i _ => if isSlc i then none else some (o, i)
  | _ => none
def vSlc : Expr → Option (Expr × Option Expr × Option Expr)
  | .Subscript o (.Slice l h none _) _ => some (o, l, h)
  | _ => none
def vTup : Expr → Option (List Expr)
  | .Tuple es _ _ => some es
  | _ => none
def vLst : Expr → Option (List Expr)
  | .List es _ => some es
  | _ => none
def vComp : Expr → Option (Expr × Expr × Expr × List Expr × Scope)
  | .ListComp e [⟨t, i, fs, k⟩] sc _ => if k = 0 then some (e, t, i, fs, sc) else none
  | _ => none
def isStar : Expr → Bool
  | .Starred _ _ => true
  | _ => false
def isComp : Expr → Bool
  | .ListComp _ _ _ _ => true
  | .SetComp _ _ _ _ => true
  | .DictComp _ _ _ _ _ => true
  | _ => false
/-- nothing of super() -/
def noSup : Expr → Bool
  | .Call (.Name _ _) [] [] _ => false
  | _ => true
def isSet : Expr → Bool
  | .Set _ _ _ => true
  | _ => false

section
variable {e a b c : Expr} {x m f : Str}
theorem vName_eq (h : vName e = some x) : ∃ p, e = .Name x p := by
  cases e <;> simp [vName] at h; subst h; exact ⟨_, rfl⟩
theorem vConst_eq {k : Const} (h : vConst e = some k) : ∃ j p, e = .Constant k j p := by
  cases e <;> simp [vConst] at h; subst h; exact ⟨_, _, rfl⟩
theorem vUn_eq {o : UnaryOp} (h : vUn e = some (o, a)) : ∃ p, e = .UnaryOp o a p := by
  cases e <;> simp [vUn] at h; obtain ⟨rfl, rfl⟩ := h; exact ⟨_, rfl⟩
theorem vBin_eq {o : Operator} (h : vBin e = some (o, a, b)) : ∃ p, e = .BinOp a o b p := by
  cases e <;> simp [vBin] at h; obtain ⟨rfl, rfl, rfl⟩ := h; exact ⟨_, rfl⟩
theorem vCmp_eq {o : CmpOp} (h : vCmp e = some (o, a, b)) : ∃ p, e = .Compare a [o] [b] p := by
  unfold vCmp at h; split at h <;> simp at h; obtain ⟨rfl, rfl, rfl⟩ := h; exact ⟨_, rfl⟩
theorem vCmp2_eq {o p : CmpOp} (h : vCmp2 e = some (o, p, a, b, c)) : ∃ q, e = .Compare a [o, p] [b, c] q := by
  unfold vCmp2 at h; split at h <;> simp at h; obtain ⟨rfl, rfl, rfl, rfl, rfl⟩ := h; exact ⟨_, rfl⟩
theorem vBool_eq {o : BoolOp} {as : List Expr} (h : vBool e = some (o, as)) : ∃ p, e = .BoolOp o as p := by
  cases e <;> simp [vBool] at h; obtain ⟨rfl, rfl⟩ := h; exact ⟨_, rfl⟩
theorem vIf_eq (h : vIf e = some (c, a, b)) : ∃ p, e = .IfExp c a b p := by
  cases e <;> simp [vIf] at h; obtain ⟨rfl, rfl, rfl⟩ := h; exact ⟨_, rfl⟩
theorem vCallN_eq {as : List Expr} {ks : List Keyword} (h : vCallN e = some (x, as, ks)) : ∃ q p, e = .Call (.Name x q) as ks p := by
  unfold vCallN at h; split at h <;> simp at h; obtain ⟨rfl, rfl, rfl⟩ := h; exact ⟨_, _, rfl⟩
theorem vCallM_eq {as : List Expr} (h : vCallM e = some (a, m, as)) : ∃ q p, e = .Call (.Attribute a m q) as [] p ∧ (q.endLine == p.line) = true := by
  unfold vCallM at h; split at h
  · split at h
    · rename_i hq; simp at h; obtain ⟨rfl, rfl, rfl⟩ := h; exact ⟨_, _, rfl, hq⟩
    · simp at h
  · simp at h
theorem vAttr_eq (h : vAttr e = some (a, f)) : ∃ p, e = .Attribute a f p := by
  cases e <;> simp [vAttr] at h; obtain ⟨rfl, rfl⟩ := h; exact ⟨_, rfl⟩
theorem vSub_eq (h : vSub e = some (a, b)) : ∃ p, e = .Subscript a b p ∧ isSlc b = false := by
  cases e <;> simp [vSub] at h; obtain ⟨h1, rfl, rfl⟩ := h; exact ⟨_, rfl, h1⟩
theorem vSlc_eq {l r : Option Expr} (h : vSlc e = some (a, l, r)) : ∃ q p, e = .Subscript a (.Slice l r none q) p := by
  unfold vSlc at h; split at h <;> simp at h; obtain ⟨rfl, rfl, rfl⟩ := h; exact ⟨_, _, rfl⟩
theorem vTup_eq {es : List Expr} (h : vTup e = some es) : ∃ k p, e = .Tuple es k p := by
  cases e <;> simp [vTup] at h; subst h; exact ⟨_, _, rfl⟩
theorem vLst_eq {es : List Expr} (h : vLst e = some es) : ∃ p, e = .List es p := by
  cases e <;> simp [vLst] at h; subst h; exact ⟨_, rfl⟩
theorem vComp_eq {t i : Expr} {fs : List Expr} {sc : Scope} (h : vComp e = some (a, t, i, fs, sc)) : ∃ p, e = .ListComp a [⟨t, i, fs, 0⟩] sc p := by
  unfold vComp at h; split at h
  · split at h
    · rename_i hk; simp at h; obtain ⟨rfl, rfl, rfl, rfl, rfl⟩ := h; subst hk; exact ⟨_, rfl⟩
    · simp at h
  · simp at h
end

/-! ### the names -/
structure Nms where
  gf : List (Option Str)
  gc : List (Option Str)
  bn : List Str
  nc : Nat
/-- where one looks: the scope that runs, the slots' names, the names whose cells were made at the entry; hot: in an except suite -/
structure Ck where
  sc : Scope
  N : List Str
  fn : Str → Bool
  nm : Nms
  hot : Bool
def isLoc (sc : Scope) (x : Str) : Bool := match sc.names.lookup x with
  | some .local => true
  | some .cell => true
  | _ => false
def isVis (sc : Scope) (x : Str) : Bool := match sc.names.lookup x with
  | some .local => true
  | some .cell => true
  | some .free => true
  | _ => false
def isLocal (sc : Scope) (x : Str) : Bool := match sc.names.lookup x with
  | some .local => true
  | _ => false
def isGl (sc : Scope) (x : Str) : Bool := match sc.names.lookup x with
  | some .globalImplicit => true
  | _ => false
def noDbg (x : Str) : Bool := !(x == ("__debug__" : Str)) && (!(x == ("__classdict__" : Str)) && !(x == ("__name__" : Str)))
def Ck.var (c : Ck) (x : Str) (i : Nat) : Bool := decide (c.N[i]? = some x) && (isVis c.sc x && noDbg x)
def Ck.tgt (c : Ck) (x : Str) (i : Nat) : Bool := decide (c.N[i]? = some x) && (isLoc c.sc x && (c.fn x || isLocal c.sc x))
def Ck.glo (c : Ck) (x : Str) : Bool := isGl c.sc x && noDbg x
/-- a name of Python's own that the module leaves free -/
def Ck.blt (c : Ck) (x : Str) : Bool := c.glo x && decide (x ∈ c.nm.bn)
def Ck.blk (c : Ck) (sc : Scope) : Ck := { c with sc := relS sc c.sc, fn := fun x => sc.names.lookup x == some .cell }

def bopO : Bop → Operator
  | .add => .Add | .sub => .Sub | .mul => .Mult | .fdiv => .FloorDiv | .mod => .Mod | .pow => .Pow | .xor => .BitXor
def copO : Cop → CmpOp
  | .eq => .Eq | .ne => .NotEq | .lt => .Lt | .le => .LtE | .gt => .Gt | .ge => .GtE | .is => .Is | .isn => .IsNot | .inn => .In | .nin => .NotIn
def bltN : Blt → Str
  | .len => "len" | .int => "int" | .tuple => "tuple" | .list => "list" | .sum => "sum" | .min => "min" | .max => "max" | .all => "all" | .any => "any"
  | .abs => "abs" | .range => "range" | .isinst => "isinstance" | .sorted => "sorted" | .gcd => "gcd"
def lmN : Lm → Str
  | .append => "append" | .pop => "pop" | .reverse => "reverse" | .extend => "extend"
def tyN : String → Option Str
  | "int" => some "int"
  | "bool" => some "bool"
  | "list" => some "list"
  | "tuple" => some "tuple"
  | "str" => some "str"
  | _ => none
def okCon : Const → D → Bool
  | .none, .non => true
  | .bool a, .bl b => a == b
  | .int i, .int j => decide (i = j)
  | .str x, .str s => decide (x.cps = s.toArray)
  | _, _ => false
/-- a None, written -/
def lit : E → Bool
  | .con .non => true
  | _ => false
/-- a target -/
def okTs (c : Ck) : List Expr → List Nat → Bool
  | [], [] => true
  | e :: es, i :: is => (match vName e with
    | some x => c.tgt x i
    | none => false) && okTs c es is
  | _, _ => false
def okT (c : Ck) (e : Expr) (ts : List Nat) (tu : Bool) : Bool := match tu with
  | true => (match vTup e with
    | some es => okTs c es ts
    | none => false)
  | false => (match vName e, ts with
    | some x, [i] => c.tgt x i
    | _, _ => false)
/-- a target's names with their slots -/
def ownT : List Expr → List Nat → List (Str × Nat)
  | e :: es, i :: is => (match vName e with
    | some x => [(x, i)]
    | none => []) ++ ownT es is
  | _, _ => []
def ownOf (e : Expr) (ts : List Nat) (tu : Bool) : List (Str × Nat) := match tu with
  | true => (match vTup e with
    | some es => ownT es ts
    | none => [])
  | false => ownT [e] ts

def notFrz : E → Bool
  | .frz _ => false
  | _ => true
mutual
def okE (c : Ck) : Expr → E → Bool
  | _, .never => true
  | e, .var i => (match vName e with
    | some x => c.var x i
    | none => false)
  | e, .con d => (match vConst e with
    | some k => okCon k d
    | none => false)
  | e, .glo d => (match vName e with
    | some x => c.glo x && (match d with
      | .cls k => decide (c.nm.gc[k]? = some (some x)) && decide (k < c.nm.nc)
      | .ty n => decide (tyN n = some x) && decide (x ∈ c.nm.bn)
      | _ => false)
    | none => false)
  | e, .xat i f => (match vAttr e with
    | some (o, g) => decide (g = f) && ((match vName o with
      | some x => c.var x i
      | none => false) && c.hot)
    | none => false)
  | e, .frz a => notFrz a && okE c e a
  | e, .neg a => (match vUn e with
    | some (.USub, x) => okE c x a
    | _ => false)
  | e, .bin o a b => (match vBin e with
    | some (p, x, y) => decide (p = bopO o) && (okE c x a && okE c y b)
    | none => false)
  | e, .cmp o a b => (match vCmp e with
    | some (p, x, y) => decide (p = copO o) && ((okE c x a && okE c y b) && (match o with
      | .is => lit b
      | .isn => lit b
      | .inn => false
      | .nin => false
      | _ => true))
    | none => false)
  | _, .cmp2 _ _ _ _ _ => false
  | e, .bool k as => (match vBool e with
    | some (o, es) => decide (o = if k then BoolOp.And else BoolOp.Or) && okEs c es as
    | none => false)
  | e, .not a => (match vUn e with
    | some (.Not, x) => okE c x a
    | _ => false)
  | e, .ite k a b => (match vIf e with
    | some (x, y, z) => okE c x k && (okE c y a && okE c z b)
    | none => false)
  | e, .call f as ks kv => (match vCallN e with
    | some (x, es, kws) => !c.hot && (decide (c.nm.gf[f]? = some (some x)) && (c.glo x && (okEs c es as && (okKs c kws ks kv && (decide (0 < es.length) || decide (kws.length = 0))))))
    | none => false)
  | e, .new k as ks kv => (match vCallN e with
    | some (x, es, kws) => !c.hot && (decide (c.nm.gc[k]? = some (some x)) && (c.glo x && (okEs c es as && (okKs c kws ks kv && decide (0 < es.length)))))
    | none => false)
  | _, .meth _ _ _ => false
  | e, .attr o f => (match vAttr e with
    | some (x, g) => !c.hot && (decide (g = f) && (noSup x && okE c x o))
    | none => false)
  | e, .sub o i => (match vSub e with
    | some (x, y) => !c.hot && (okE c x o && okE c y i)
    | none => false)
  | _, .slc _ _ _ => false
  | e, .tup as => (match vTup e with
    | some es => okEs c es as
    | none => false)
  | e, .lst as => (match vLst e with
    | some es => okEs c es as
    | none => false)
  | e, .comp x ts tu it ifs => (match vComp e with
    | some (y, t, i, fs, sc) => !c.hot && (okI c t i it && (blkC c.N c.sc sc (ownOf t ts tu) && (okT (c.blk sc) t ts tu && (decide ((ownOf t ts tu).map (·.2) = ts) && (okE (c.blk sc) y x && (okEs (c.blk sc) fs ifs && decide (fs.length ≤ 1)))))))
    | none => false)
  | e, .blt b as => (match vCallN e with
    | some (x, es, []) => !c.hot && (decide (b ≠ .gcd) && (decide (x = bltN b) && (c.blt x && (okEs c es as && decide (0 < es.length)))))
    | _ => false)
  | e, .lm m o as => (match vCallM e with
    | some (x, n, es) => decide (n = lmN m) && (noSup x && (okE c x o && (okEs c es as && isPl o)))
    | none => false)
def okEs (c : Ck) : List Expr → Es → Bool
  | [], .nil => true
  | e :: es, .cons a as => !isStar e && (okE c e a && okEs c es as)
  | [], .cons _ _ => false
  | _ :: _, .nil => false
def okKs (c : Ck) : List Keyword → List Str → Es → Bool
  | [], [], .nil => true
  | ⟨some k, v, _⟩ :: r, n :: ns, .cons a as => decide (k = n) && (okE c v a && okKs c r ns as)
  | _, _, .nil => false
  | _, _, .cons _ _ => false
/-- tg: the loop's target, it: what is walked -/
def okI (c : Ck) : Expr → Expr → I → Bool
  | _, e, .val a => !isSet e && okE c e a
  | _, e, .rng as => (match vCallN e with
    | some (x, es, []) => decide (x = ("range" : Str)) && (c.blt x && (okEs c es as && decide (es.length = 1 ∨ es.length = 2)))
    | _ => false)
  | t, e, .zip a b => (match vCallN e with
    | some (x, [y, z], []) => decide (x = ("zip" : Str)) && (c.blt x && ((vTup t).isSome && ((!isStar y && okE c y a) && (!isStar z && okE c z b))))
    | _ => false)
  | t, e, .enu a => (match vCallN e with
    | some (x, [y], []) => decide (x = ("enumerate" : Str)) && (c.blt x && ((vTup t).isSome && (!isStar y && okE c y a)))
    | _ => false)
end

/-! ### statements -/
def vAsg : Stmt → Option (Expr × Expr × Nat)
  | .Assign [t] e p => some (t, e, p.line)
  | _ => none
def vNameL : Expr → Option (Str × Nat)
  | .Name x p => some (x, p.line)
  | _ => none
def vAug : Stmt → Option (Expr × Operator × Expr)
  | .AugAssign t o e _ => some (t, o, e)
  | _ => none
def vIfS : Stmt → Option (Expr × List Stmt × List Stmt)
  | .If c a b _ => some (c, a, b)
  | _ => none
def vFor : Stmt → Option (Expr × Expr × List Stmt)
  | .For t i b [] _ => some (t, i, b)
  | _ => none
def vWh : Stmt → Option (Expr × List Stmt)
  | .While c b [] _ => some (c, b)
  | _ => none
def vRet : Stmt → Option (Option Expr)
  | .Return e _ => some e
  | _ => none
def vRai : Stmt → Option (Str × List Expr)
  | .Raise (some (.Call (.Name x _) es [] _)) none _ => some (x, es)
  | _ => none
def vTry : Stmt → Option (List Stmt × List ExceptHandler)
  | .Try b hs [] [] _ => some (b, hs)
  | _ => none
def vHd : ExceptHandler → Option (Str × Option Str × List Stmt)
  | .ExceptHandler (some (.Name x _)) n b _ => some (x, n, b)
  | _ => none
def vEx : Stmt → Option Expr
  | .Expr e _ => some e
  | _ => none
def isPass : Stmt → Bool
  | .Pass _ => true
  | _ => false
def isBrk : Stmt → Bool
  | .Break _ => true
  | _ => false
def isCnt : Stmt → Bool
  | .Continue _ => true
  | _ => false
section
variable {s : Stmt} {t e c i : Expr} {a b : List Stmt} {x : Str} {l : Nat}
theorem vAsg_eq (h : vAsg s = some (t, e, l)) : ∃ p, s = .Assign [t] e p ∧ p.line = l := by
  unfold vAsg at h; split at h <;> simp at h; obtain ⟨rfl, rfl, rfl⟩ := h; exact ⟨_, rfl, rfl⟩
theorem vNameL_eq (h : vNameL e = some (x, l)) : ∃ p, e = .Name x p ∧ p.line = l := by
  unfold vNameL at h; split at h <;> simp at h; obtain ⟨rfl, rfl⟩ := h; exact ⟨_, rfl, rfl⟩
theorem vAug_eq {o : Operator} (h : vAug s = some (t, o, e)) : ∃ p, s = .AugAssign t o e p := by
  unfold vAug at h; split at h <;> simp at h; obtain ⟨rfl, rfl, rfl⟩ := h; exact ⟨_, rfl⟩
theorem vIfS_eq (h : vIfS s = some (c, a, b)) : ∃ p, s = .If c a b p := by
  unfold vIfS at h; split at h <;> simp at h; obtain ⟨rfl, rfl, rfl⟩ := h; exact ⟨_, rfl⟩
theorem vFor_eq (h : vFor s = some (t, i, b)) : ∃ p, s = .For t i b [] p := by
  unfold vFor at h; split at h <;> simp at h; obtain ⟨rfl, rfl, rfl⟩ := h; exact ⟨_, rfl⟩
theorem vWh_eq (h : vWh s = some (c, b)) : ∃ p, s = .While c b [] p := by
  unfold vWh at h; split at h <;> simp at h; obtain ⟨rfl, rfl⟩ := h; exact ⟨_, rfl⟩
theorem vRet_eq {o : Option Expr} (h : vRet s = some o) : ∃ p, s = .Return o p := by
  unfold vRet at h; split at h <;> simp at h; subst h; exact ⟨_, rfl⟩
theorem vRai_eq {es : List Expr} (h : vRai s = some (x, es)) : ∃ p q r, s = .Raise (some (.Call (.Name x p) es [] q)) none r := by
  unfold vRai at h; split at h <;> simp at h; obtain ⟨rfl, rfl⟩ := h; exact ⟨_, _, _, rfl⟩
theorem vTry_eq {hs : List ExceptHandler} (h : vTry s = some (b, hs)) : ∃ p, s = .Try b hs [] [] p := by
  unfold vTry at h; split at h <;> simp at h; obtain ⟨rfl, rfl⟩ := h; exact ⟨_, rfl⟩
theorem vHd_eq {hd : ExceptHandler} {n : Option Str} (h : vHd hd = some (x, n, b)) : ∃ p q, hd = .ExceptHandler (some (.Name x p)) n b q := by
  unfold vHd at h; split at h <;> simp at h; obtain ⟨rfl, rfl, rfl⟩ := h; exact ⟨_, _, rfl⟩
theorem vEx_eq (h : vEx s = some e) : ∃ p, s = .Expr e p := by
  unfold vEx at h; split at h <;> simp at h; subst h; exact ⟨_, rfl⟩
theorem isPass_eq (h : isPass s = true) : ∃ p, s = .Pass p := by
  unfold isPass at h; split at h <;> simp at h; exact ⟨_, rfl⟩
theorem isBrk_eq (h : isBrk s = true) : ∃ p, s = .Break p := by
  unfold isBrk at h; split at h <;> simp at h; exact ⟨_, rfl⟩
theorem isCnt_eq (h : isCnt s = true) : ∃ p, s = .Continue p := by
  unfold isCnt at h; split at h <;> simp at h; exact ⟨_, rfl⟩
end
/-- a list comprehension stored under a local name at once -/
def swaps (c : Ck) (x : Str) (e : Expr) (l : Nat) : Bool := match vComp e with
  | some (_, _, _, _, sc) => (match c.sc.kind with | .function => true | _ => false) && (isLocal c.sc x && (decide (l = e.pos.line) && !(sc.names.any fun p => p.1 == x && (p.2 == .local || p.2 == .cell))))
  | none => false
/-- .. or not at once -/
def noSwap (c : Ck) (x : Str) (e : Expr) : Bool := !isComp e || !isLocal c.sc x
def notDisp (e : Expr) : Bool := match e with
  | .Tuple _ _ _ => false
  | .List _ _ => false
  | e => !isComp e
/-- a, b = x, y where one of the names is no plain local one: the pair is made, then unpacked -/
def cellPair (c : Ck) (t x : Expr) : Bool := match t, x with
  | .Tuple [.Name n _, .Name m _] _ _, .Tuple [_, _] _ _ => !(isLocal c.sc n && isLocal c.sc m)
  | _, _ => false
def okAttrs (c : Ck) : List Expr → List Str → Bool
  | [], [] => true
  | e :: es, f :: fs => (match vAttr e with
    | some (o, g) => decide (g = f) && (match vName o with
      | some x => c.var x 0
      | none => false)
    | none => false) && okAttrs c es fs
  | _, _ => false
/-- a def's own names -/
def fnK (sc : Scope) : Bool := match sc.kind with
  | .function => true
  | _ => false
def okOp : Operator → Bop → Bool := fun o p => decide (o = bopO p)
mutual
/-- pr: slot 0 is kept -/
def okS (c : Ck) (pr : Bool) : Stmt → S → Bool
  | _, .never => true
  | s, .asg i e => (match vAsg s with
    | some (t, x, _) => (match vNameL t with
      | some (n, l) => c.tgt n i && ((!pr || decide (i ≠ 0)) && (okE c x e && (noSwap c n x || swaps c n x l)))
      | none => false)
    | none => false)
  | s, .asgT is e => (match vAsg s with
    | some (t, x, _) => !c.hot && (okT c t is true && ((!pr || decide (0 ∉ is)) && (okE c x e && (notDisp x || cellPair c t x))))
    | none => false)
  | s, .par i j a b => (match vAsg s with
    | some (.Tuple [t, u] _ _, .Tuple [x, y] _ _, _) => (match vNameL t, vNameL u with
      | some (n, l), some (m, k) => !c.hot && ((fnK c.sc && (c.tgt n i && c.tgt m j)) && (decide (n ≠ m) && ((!pr || (decide (i ≠ 0) && decide (j ≠ 0))) && (isLocal c.sc n && (isLocal c.sc m && (decide (k = l) && ((!isStar x && !isStar y) && ((!(foldedForSure 8 x && foldedForSure 8 y) && !(constantsAlone 8 x && constantsAlone 8 y)) && (okE c x a && okE c y b)))))))))
      | _, _ => false)
    | _ => false)
  | s, .asgF fs tu e => (match vAsg s with
    | some (t, x, _) => !c.hot && ((match tu with
      | false => okAttrs c [t] fs
      | true => (match t with
        | .Tuple es _ _ => okAttrs c es fs
        | _ => false)) && (okE c x e && !isComp x))
    | none => false)
  | s, .asgS o i e => (match vAsg s with
    | some (t, x, _) => (match vSub t with
      | some (y, z) => okE c y o && (okE c z i && (okE c x e && !isComp x))
      | none => false)
    | none => false)
  | s, .aug i o e => (match vAug s with
    | some (t, p, x) => (match vName t with
      | some n => c.tgt n i && (c.var n i && ((!pr || decide (i ≠ 0)) && (decide (p = bopO o) && ((match o with | .add => true | .sub => true | .mul => true | .fdiv => true | .mod => true | _ => false) && okE c x e))))
      | none => false)
    | none => false)
  | s, .augS o i p e => (match vAug s with
    | some (t, q, x) => (match vSub t with
      | some (y, z) => okE c y o && (okE c z i && (decide (q = bopO p) && ((match p with | .add => true | .sub => true | .mul => true | _ => false) && okE c x e)))
      | none => false)
    | none => false)
  | s, .ifS k a b => (match vIfS s with
    | some (x, as, bs) => okE c x k && (okB c pr as a && okB c pr bs b)
    | none => false)
  | s, .forS ts tu it body => (match vFor s with
    | some (t, i, bs) => !c.hot && (okI c t i it && (okT c t ts tu && ((!pr || decide (0 ∉ ts)) && (okB c pr bs body && !isSet i))))
    | none => false)
  | s, .whS k body => (match vWh s with
    | some (x, bs) => !c.hot && (okE c x k && okB c pr bs body)
    | none => false)
  | s, .ret e => (match vRet s with
    | some (some x) => okE c x e
    | _ => false)
  | s, .retN => (match vRet s with
    | some none => true
    | _ => false)
  | s, .rai k as => (match vRai s with
    | some (x, es) => !c.hot && (decide (c.nm.gc[k]? = some (some x)) && (c.glo x && (okEs c es as && !es.isEmpty)))
    | none => false)
  | s, .tryS body hs => (match vTry s with
    | some (bs, [h]) => !c.hot && (okB c pr bs body && okH c pr h hs)
    | _ => false)
  | s, .ex e => (match vEx s with
    | some x => okE c x e && !isComp x
    | none => false)
  | s, .pass => isPass s
  | s, .brk => isBrk s
  | s, .cnt => isCnt s
def okB (c : Ck) (pr : Bool) : List Stmt → B → Bool
  | [], .nil => true
  | s :: ss, .cons t b => okS c pr s t && okB c pr ss b
  | _, _ => false
def okH (c : Ck) (pr : Bool) : ExceptHandler → Hs → Bool
  | h, .cons k (some i) b .nil => (match vHd h with
    | some (x, some n, s₀ :: ss) => decide (c.nm.gc[k]? = some (some x)) && (c.glo x && (decide (c.N[i]? = some n) && (isLocal c.sc n && ((!pr || decide (i ≠ 0)) && okB { c with hot := true } pr (s₀ :: ss) b))))
    | _ => false)
  | _, _ => false
end
end VS
set_option Elab.async false
set_option linter.all false
set_option maxRecDepth 100000
set_option maxHeartbeats 2000000
/-! VSe: what an evaluation's end asks; how ends are put together. -/
namespace VS
open PySem PySem.Spec PyProof.Rows L2

/-- an exception's fields, borne at its dict dd -/
def XB (R : Rt) (H : Hp) (A : Av) (c : Nat) (xs : List D) (dd : Addr) : Prop := ∃ vs, H dd = some (.xd ((R.fl c).zip vs)) ∧ vs.length ≤ (R.fl c).length ∧ RPs R H A xs vs []

/-- an end: K of a result; an exception meets the wish W; no end is none -/
def KR {α : Type} (R : Rt) (W : WX) (Rs : Av) (mu : Bool) (ow : Own) (H : Hp) (σ : L2.St) (r : Rr α) (K : α → Prop) : Prop := match r with
  | .ok a => K a
  | .ex c xs env' => ∀ H' ow' dd, Po R Rs mu ow H env' σ ow' [] H' → XB R H' (Avd ow' Rs) c xs dd → W (.ref (R.ca c)) (some dd) σ H'
  | .no => False

section
variable {α β : Type} {R : Rt} {W : WX} {Rs A A' : Av} {mu m1 m2 : Bool} {ow ow1 : Own} {H H1 : Hp} {σ : L2.St} {env1 : VE} {os1 : List Addr}

theorem KR.bind {r : Rr α} {f : α → Rr β} {K : β → Prop} (h : KR R W Rs mu ow H σ (r.bind f) K) : KR R W Rs mu ow H σ r fun a => KR R W Rs mu ow H σ (f a) K := by
  cases r with
  | ok a => exact h
  | ex c xs e => exact h
  | no => exact h
theorem KR.opt {o : Option α} {K : α → Prop} (h : KR R W Rs mu ow H σ (optR o) K) : ∃ a, o = some a ∧ K a := by
  cases o with
  | none => exact h.elim
  | some a => exact ⟨a, rfl, h⟩
theorem KR.imp {r : Rr α} {K K' : α → Prop} (h : KR R W Rs mu ow H σ r K) (k : ∀ a, r = .ok a → K a → K' a) : KR R W Rs mu ow H σ r K' := by
  cases r with
  | ok a => exact k a rfl h
  | ex c xs e => exact h
  | no => exact h
theorem KR.le {r : Rr α} {K : α → Prop} (h : KR R W Rs m2 ow H σ r K) (l : m1 = true → m2 = true) : KR R W Rs m1 ow H σ r K := by
  cases r with
  | ok a => exact h
  | ex c xs e => exact fun H' ow' dd p x => h H' ow' dd (p.le l) x
  | no => exact h
theorem XB.less {c : Nat} {xs : List D} {dd : Addr} (x : XB R H A c xs dd) (h : ∀ a, A' a → A a) : XB R H A' c xs dd := by
  obtain ⟨vs, e, l, r⟩ := x
  exact ⟨vs, e, l, r.avoid fun a q => .inl (h a q)⟩
/-- the end behind an evaluation -/
theorem KR.shift {r : Rr α} {K : α → Prop} (h : KR R W Rs mu ow H σ r K) (p : Po R Rs m1 ow H env1 σ ow1 os1 H1) (l1 : m1 = true → mu = true) (l2 : m2 = true → mu = true) : KR R W (Tm Rs os1) m2 ow1 H1 σ r K := by
  cases r with
  | ok a => exact h
  | ex c xs e =>
    refine fun H' ow' dd q x => h H' ow' dd ((Po.seq (os := []) p q (by simp) (by simp)).le fun z => ?_) (x.less fun a z => ?_)
    · rcases Bool.or_eq_true _ _ ▸ z with z | z
      · exact l1 z
      · exact l2 z
    · exact z.elim .inl fun z => .inr (.inl z)
  | no => exact h

/-- a value's end -/
def EK (R : Rt) (Rs : Av) (mu : Bool) (ow : Own) (H : Hp) (σ : L2.St) (Q : VK) (p : D × VE) : Prop :=
  ∀ v H' ow' os, Po R Rs mu ow H p.2 σ ow' os H' → RP R H' (Avd ow' (Tm Rs os)) p.1 v os → Q v H'
/-- an operand's end: it is only read; pl: it may be a place's -/
def OK (R : Rt) (Rs : Av) (mu : Bool) (ow : Own) (H : Hp) (σ : L2.St) (pl : Bool) (Q : VK) (p : D × VE) : Prop :=
  ∀ v H' ow' os os', Po R Rs mu ow H p.2 σ ow' os H' → RP R H' (Avd ow' (Tm Rs os)) p.1 v os' → (pl = false → os' = os) → Q v H'
/-- some values' -/
def AK (R : Rt) (Rs : Av) (mu : Bool) (ow : Own) (H : Hp) (σ : L2.St) (Q : List V → Hp → Prop) (p : List D × VE) : Prop :=
  ∀ vs H' ow' os, Po R Rs mu ow H p.2 σ ow' os H' → RPs R H' (Avd ow' (Tm Rs os)) p.1 vs os → Q vs H'
/-- values that are only read -/
def RVs (R : Rt) (H : Hp) (A : Av) : List D → List V → Prop
  | [], vs => vs = []
  | d :: ds, vs => ∃ v vs' os, vs = v :: vs' ∧ RP R H A d v os ∧ RVs R H A ds vs'
def OKs (R : Rt) (Rs : Av) (mu : Bool) (ow : Own) (H : Hp) (σ : L2.St) (Q : List V → Hp → Prop) (p : List D × VE) : Prop :=
  ∀ vs H' ow' os, Po R Rs mu ow H p.2 σ ow' os H' → RVs R H' (Avd ow' (Tm Rs os)) p.1 vs → Q vs H'
/-- a test's -/
def TK (R : Rt) (Rs : Av) (mu : Bool) (ow : Own) (H : Hp) (σ : L2.St) (Q : Bool → Hp → Prop) (p : Bool × VE) : Prop :=
  ∀ H' ow', Po R Rs mu ow H p.2 σ ow' [] H' → Q p.1 H'

/-- an operand stands behind another evaluation -/
theorem keepV {env2 : VE} {ow2 : Own} {H2 : Hp} {os os2 : List Addr} {d : D} {v : V} {pl : Bool} (s : ES R H1 (Tm Rs os1) env1 σ ow1) (q : Po R (Tm Rs os1) m2 ow1 H1 env2 σ ow2 os2 H2) (r : RP R H1 (Avd ow1 (Tm Rs os1)) d v os)
    (h : (d.isFz || !m2 || !pl) = true) (hp : pl = false → os = os1) : RP R H2 (Avd ow2 (Tm (Tm Rs os1) os2)) d v os := by
  simp only [Bool.or_eq_true, Bool.not_eq_true'] at h
  rcases h with (h | h) | h
  · have e := r.fz_nil h
    subst e
    exact q.keep s r (by simp)
  · refine r.grow (fun a o e => q.fr a o e fun z => by rw [h] at z; cases z) fun a z => ?_
    rcases z with z | z | z
    · rcases q.new a (.inl z) with y | y
      · exact .inl (.inl y)
      · exact .inr y
    · exact .inl (.inr z)
    · rcases q.new a (.inr z) with y | y
      · exact .inl (.inl y)
      · exact .inr y
  · have e := hp h
    subst e
    exact q.keep s r fun a ha => .inr ha

/-- a new value d, or an old one's part: what it owns is new -/
def NewR (R : Rt) (A : Av) (H : Hp) (d : D) (Q : VK) : Prop :=
  ∀ u H' os, Gr H H' → (∀ a ∈ os, H a = none ∧ H' a ≠ none) → os.Nodup → RP R H' (fun a => A a ∨ a ∈ os) d u os → Q u H'
theorem NewR.of {env2 : VE} {ow2 : Own} {H2 : Hp} {os2 : List Addr} {d : D} {Q : VK} (p : Po R Rs mu ow H env2 σ ow2 os2 H2) (k : EK R Rs mu ow H σ Q (d, env2)) : NewR R (Avd ow2 (Tm Rs os2)) H2 d Q := fun u H' os g hn hd r =>
  k u H' ow2 os (p.grow g (fun a ha => .inr (hn a ha)) hd) (r.avoid fun a q => by
    rcases q with q | q | q
    · exact .inl (.inl (.inl q))
    · exact .inl (.inl (.inr (.inl q)))
    · exact .inl (.inr q))
theorem NewR.here {d : D} {Q : VK} (n : NewR R A H d Q) {v : V} (r : RP R H A d v []) : Q v H :=
  n v H [] (Gr.refl H) (by simp) (by simp) (r.avoid fun a q => by simp at q; exact .inl q)
/-- what is new and frozen: a tuple -/
theorem NewR.tup {ds : List D} {Q : VK} {vs : List V} {p : Addr} (n : NewR R A H (.tup ds) Q) (hp : H p = none) (r : RPs R H A ds vs []) : Q (.ref p) (upd H p (.tup vs)) := by
  refine n (.ref p) _ [] (Gr.new hp) (by simp) (by simp) ?_
  unfold RP
  exact ⟨rfl, p, vs, rfl, SqT.of upd_same, r.grow (Gr.new hp) fun a q => by simp at q; exact .inl q⟩
/-- a new list of frozen items -/
theorem NewR.lst {ds : List D} {Q : VK} {vs : List V} {p : Addr} (n : NewR R A H (.lst true ds) Q) (hp : H p = none) (r : RPs R H A ds vs []) : Q (.ref p) (upd H p (.lst vs)) := by
  refine n (.ref p) _ [p] (Gr.new hp) (fun a ha => ?_) (by simp) ?_
  · simp only [List.mem_singleton] at ha
    subst ha
    exact ⟨hp, by rw [upd_same]; simp⟩
  · unfold RP
    simp only [if_true]
    refine ⟨p, vs, [], rfl, rfl, upd_same, r.grow (Gr.new hp) fun a q => ?_⟩
    rcases q with q | q
    · exact .inl q
    · simp only [List.mem_singleton] at q
      subst q
      exact .inr hp
end

/-! ### lists of borne values -/
section
variable {R : Rt} {H : Hp} {A : Av}
theorem RPs.get : ∀ {ds : List D} {vs : List V} {os : List Addr} {j : Nat} {d : D}, RPs R H A ds vs os → ds[j]? = some d → ∃ v o, vs[j]? = some v ∧ RP R H A d v o ∧ o.Sublist os
  | [], _, _, _, _, _, e => by simp at e
  | x :: ds, vs, os, j, d, h, e => by
    unfold RPs at h
    obtain ⟨v, vs', o1, o2, rfl, rfl, h1, h2⟩ := h
    cases j with
    | zero =>
      simp at e; subst e
      exact ⟨v, o1, rfl, h1, List.sublist_append_left o1 o2⟩
    | succ j =>
      obtain ⟨v', o, e1, r, sl⟩ := RPs.get (j := j) h2 (by simpa using e)
      exact ⟨v', o, by simpa using e1, r, sl.trans (List.sublist_append_right o1 o2)⟩
theorem RPs.fz_nil : ∀ {ds : List D} {vs : List V} {os : List Addr}, D.allFz ds = true → RPs R H A ds vs os → os = []
  | [], _, _, _, h => by unfold RPs at h; exact h.2
  | d :: ds, vs, os, hf, h => by
    unfold RPs at h
    unfold D.allFz at hf
    simp only [Bool.and_eq_true] at hf
    obtain ⟨v, vs', o1, o2, rfl, rfl, h1, h2⟩ := h
    rw [h1.fz_nil hf.1, RPs.fz_nil hf.2 h2]
    rfl
theorem RPs.append : ∀ {ds es : List D} {vs ws : List V} {os us : List Addr}, RPs R H A ds vs os → RPs R H A es ws us → RPs R H A (ds ++ es) (vs ++ ws) (os ++ us)
  | [], es, vs, ws, os, us, h, k => by
    unfold RPs at h
    obtain ⟨rfl, rfl⟩ := h
    exact k
  | d :: ds, es, vs, ws, os, us, h, k => by
    unfold RPs at h
    obtain ⟨v, vs', o1, o2, rfl, rfl, h1, h2⟩ := h
    show RPs R H A (d :: (ds ++ es)) _ _
    unfold RPs
    exact ⟨v, vs' ++ ws, o1, o2 ++ us, rfl, by rw [List.append_assoc], h1, RPs.append h2 k⟩
theorem RPs.append0 {ds es : List D} {vs ws : List V} (h : RPs R H A ds vs []) (k : RPs R H A es ws []) : RPs R H A (ds ++ es) (vs ++ ws) [] := h.append k
theorem RPs.split : ∀ {ds es : List D} {vs : List V} {os : List Addr}, RPs R H A (ds ++ es) vs os → ∃ vs1 vs2 o1 o2, vs = vs1 ++ vs2 ∧ os = o1 ++ o2 ∧ RPs R H A ds vs1 o1 ∧ RPs R H A es vs2 o2
  | [], es, vs, os, h => ⟨[], vs, [], os, rfl, rfl, by unfold RPs; exact ⟨rfl, rfl⟩, h⟩
  | d :: ds, es, vs, os, h => by
    rw [List.cons_append] at h
    unfold RPs at h
    obtain ⟨v, vs', o1, o2, rfl, rfl, h1, h2⟩ := h
    obtain ⟨w1, w2, u1, u2, rfl, rfl, k1, k2⟩ := RPs.split h2
    refine ⟨v :: w1, w2, o1 ++ u1, u2, rfl, by rw [List.append_assoc], ?_, k2⟩
    unfold RPs
    exact ⟨v, w1, o1, u1, rfl, rfl, h1, k1⟩
theorem RPs.nil : RPs R H A [] [] [] := by unfold RPs; exact ⟨rfl, rfl⟩
theorem RPs.one {d : D} {v : V} {os : List Addr} (h : RP R H A d v os) : RPs R H A [d] [v] os := by
  unfold RPs
  exact ⟨v, [], os, [], rfl, by simp, h, RPs.nil⟩
theorem RPs.cons {d : D} {ds : List D} {v : V} {vs : List V} {o1 o2 : List Addr} (h : RP R H A d v o1) (k : RPs R H A ds vs o2) : RPs R H A (d :: ds) (v :: vs) (o1 ++ o2) := by
  unfold RPs
  exact ⟨v, vs, o1, o2, rfl, rfl, h, k⟩
theorem RPs.ints : ∀ {ds : List D} {vs : List V} {os : List Addr} {l : List Int}, RPs R H A ds vs os → D.ints ds = some l → vs = l.map V.int
  | [], _, _, l, h, e => by
    unfold RPs at h
    simp [D.ints] at e
    subst e
    exact h.1
  | d :: ds, vs, os, l, h, e => by
    unfold RPs at h
    obtain ⟨v, vs', o1, o2, rfl, rfl, h1, h2⟩ := h
    cases d <;> simp [D.ints] at e
    rename_i i
    obtain ⟨l', e1, rfl⟩ := e
    unfold RP at h1
    rw [h1.1, RPs.ints h2 e1]
    rfl
theorem RPs.bls : ∀ {ds : List D} {vs : List V} {os : List Addr} {l : List Bool}, RPs R H A ds vs os → D.bls ds = some l → vs = l.map V.bl
  | [], _, _, l, h, e => by
    unfold RPs at h
    simp [D.bls] at e
    subst e
    exact h.1
  | d :: ds, vs, os, l, h, e => by
    unfold RPs at h
    obtain ⟨v, vs', o1, o2, rfl, rfl, h1, h2⟩ := h
    cases d <;> simp [D.bls] at e
    rename_i i
    obtain ⟨l', e1, rfl⟩ := e
    unfold RP at h1
    rw [h1.1, RPs.bls h2 e1]
    rfl
/-- a list's, a tuple's items in the heap -/
theorem RP.lstD {o : Bool} {xs : List D} {v : V} {os : List Addr} (h : RP R H A (.lst o xs) v os) : ∃ a vs os', v = .ref a ∧ SqL R.K H a vs ∧ RPs R H A xs vs os' ∧ os'.Sublist os := by
  unfold RP at h
  cases o with
  | true =>
    simp only [if_true] at h
    obtain ⟨a, vs, os', e, e2, hs, r⟩ := h
    exact ⟨a, vs, os', e, SqL.of hs, r, by rw [e2]; exact List.sublist_cons_self _ _⟩
  | false =>
    simp only [Bool.false_eq_true, if_false] at h
    obtain ⟨h0, a, vs, e, hs, r⟩ := h
    exact ⟨a, vs, [], e, hs.sq, r, by rw [h0]; exact List.Sublist.refl _⟩
theorem RP.tupD {xs : List D} {v : V} {os : List Addr} (h : RP R H A (.tup xs) v os) : os = [] ∧ ∃ a vs, v = .ref a ∧ SqT R.K H a vs ∧ RPs R H A xs vs [] := by
  unfold RP at h
  exact h
end
end VS
set_option Elab.async false
set_option linter.all false
set_option maxRecDepth 100000
set_option maxHeartbeats 2000000
/-! VSf: the operations. -/
namespace VS
open PySem PySem.Spec PyProof.Rows L2

/-! ### == -/
section
variable {R : Rt} {A : Av} {X : Cx} {pins : List (Addr × Obj)} {σ : L2.St} {H : Hp} {s : Shared}
mutual
theorem RP.reads (hK : X.K = R.K) (I : Inv X pins σ H s) : ∀ {d : D} {p : PyData} {v : V} {u : Value} {os : List Addr}, RP R H A d v os → d.py = some p → RelV v u → ∃ as, Reads s.heap u p as
  | .non, p, v, u, os, r, e, rv => by
    unfold RP at r; simp only [D.py, Option.some.injEq] at e; subst e
    rw [r.1] at rv; cases rv; exact ⟨_, .none⟩
  | .bl b, p, v, u, os, r, e, rv => by
    unfold RP at r; simp only [D.py, Option.some.injEq] at e; subst e
    rw [r.1] at rv; cases rv; exact ⟨_, .bool b⟩
  | .int i, p, v, u, os, r, e, rv => by
    unfold RP at r; simp only [D.py, Option.some.injEq] at e; subst e
    rw [r.1] at rv; obtain ⟨t, rfl⟩ := rv; exact ⟨_, .int i t⟩
  | .str x, p, v, u, os, r, e, rv => by
    unfold RP at r; simp only [D.py, Option.some.injEq] at e; subst e
    rw [r.1] at rv; obtain ⟨t, rfl⟩ := rv; exact ⟨_, .str _ t⟩
  | .tup xs, p, v, u, os, r, e, rv => by
    simp only [D.py, Option.map_eq_some_iff] at e
    obtain ⟨ps, e, rfl⟩ := e
    obtain ⟨_, a, vs, rfl, ht, rr⟩ := r.tupD
    cases rv
    obtain ⟨its, rs, ⟨o, ho, hc, n, hd⟩, _⟩ := I.tuple (hK ▸ ht)
    obtain ⟨as, k⟩ := RPs.readsAll hK I rr e rs
    exact ⟨as, .tuple ho hc hd (by simpa using k)⟩
  | .lst o xs, p, v, u, os, r, e, rv => by
    simp only [D.py, Option.map_eq_some_iff] at e
    obtain ⟨ps, e, rfl⟩ := e
    obtain ⟨a, vs, os', rfl, ht, rr, _⟩ := r.lstD
    cases rv
    obtain ⟨its, rs, ⟨ob, n, ho, hc, _, hd⟩, _⟩ := I.list (hK ▸ ht)
    obtain ⟨as, k⟩ := RPs.readsAll hK I rr e rs
    exact ⟨_, .list ho hc hd (by simpa using k)⟩
  | .obj _ _ _, p, v, u, os, r, e, rv => by simp [D.py] at e
  | .cls _, p, v, u, os, r, e, rv => by simp [D.py] at e
  | .ty _, p, v, u, os, r, e, rv => by simp [D.py] at e
  | .rng _ _, p, v, u, os, r, e, rv => by simp [D.py] at e
  | .exv _ _, p, v, u, os, r, e, rv => by simp [D.py] at e
theorem RPs.readsAll (hK : X.K = R.K) (I : Inv X pins σ H s) : ∀ {ds : List D} {ps : List PyData} {vs : List V} {us : List Value} {os : List Addr}, RPs R H A ds vs os → D.pys ds = some ps → Vals vs us → ∃ as, ReadsAll s.heap us ps as
  | [], ps, vs, us, os, r, e, rv => by
    unfold RPs at r; simp only [D.pys, Option.some.injEq] at e; subst e
    rw [r.1] at rv; cases rv; exact ⟨_, .nil⟩
  | d :: ds, ps, vs, us, os, r, e, rv => by
    unfold RPs at r
    simp only [D.pys, Option.bind_eq_some_iff, Option.map_eq_some_iff] at e
    obtain ⟨v, vs', o1, o2, rfl, rfl, h1, h2⟩ := r
    obtain ⟨p, e1, ps', e2, rfl⟩ := e
    cases rv with
    | cons r1 r2 =>
      obtain ⟨as, k1⟩ := RP.reads hK I h1 e1 r1
      obtain ⟨bs, k2⟩ := RPs.readsAll hK I h2 e2 r2
      exact ⟨_, .cons k1 k2⟩
end
end

def rCmp (R : Rt) (o : Cop) : R2 := fun x y H Q => ∃ (A : Av) (a b : D) (k : Bool) (os1 os2 : List Addr), RP R H A a x os1 ∧ RP R H A b y os2 ∧ cmpD o a b = some k ∧ Q (.bl k) H
def rIsN (R : Rt) (o : Cop) : R2 := fun x y H Q => ∃ (A : Av) (a : D) (os1 : List Addr), RP R H A a x os1 ∧ y = .non ∧ ((o = .is ∧ Q (.bl a.isNon) H) ∨ (o = .isn ∧ Q (.bl (!a.isNon)) H))
def rBin (R : Rt) (o : Bop) : R2 := fun x y H Q => ∃ (A : Av) (a b d : D) (os1 os2 : List Addr), RP R H A a x os1 ∧ RP R H A b y os2 ∧ binD o a b = some d ∧ NewR R A H d Q
def rBlt (R : Rt) (b : Blt) : List V → Hp → VK → Prop := fun vs H Q => ∃ (A : Av) (ds : List D) (d : D), RVs R H A ds vs ∧ bltD b ds = some d ∧ NewR R A H d Q

section
variable {R : Rt} {X : Cx} {A : Av} {H : Hp}
theorem RP.int {i : Int} {v : V} {os : List Addr} (r : RP R H A (.int i) v os) : v = .int i := by unfold RP at r; exact r.1
theorem RP.bl {i : Bool} {v : V} {os : List Addr} (r : RP R H A (.bl i) v os) : v = .bl i := by unfold RP at r; exact r.1
theorem RP.non {v : V} {os : List Addr} (r : RP R H A .non v os) : v = .non := by unfold RP at r; exact r.1
theorem RP.str {x : List Nat} {v : V} {os : List Addr} (r : RP R H A (.str x) v os) : v = .str ⟨x.toArray⟩ := by unfold RP at r; exact r.1
theorem RP.mkInt {i : Int} : RP R H A (.int i) (.int i) [] := by unfold RP; exact ⟨rfl, rfl⟩
theorem RP.mkBl {i : Bool} : RP R H A (.bl i) (.bl i) [] := by unfold RP; exact ⟨rfl, rfl⟩
theorem RP.mkNon : RP R H A .non .non [] := by unfold RP; exact ⟨rfl, rfl⟩
theorem RP.mkStr {x : List Nat} : RP R H A (.str x) (.str ⟨x.toArray⟩) [] := by unfold RP; exact ⟨rfl, rfl⟩
theorem RP.isNon {d : D} {v : V} {os : List Addr} (r : RP R H A d v os) : decide (v = .non) = d.isNon := by
  cases d <;> unfold RP at r
  case lst o xs =>
    cases o
    · simp only [Bool.false_eq_true, if_false] at r
      obtain ⟨_, a, vs, rfl, _⟩ := r; rfl
    · simp only [if_true] at r
      obtain ⟨a, vs, os', rfl, _⟩ := r; rfl
  case obj o c xs =>
    cases o
    · simp only [Bool.false_eq_true, if_false] at r
      obtain ⟨_, a, dx, vs, rfl, _⟩ := r; rfl
    · simp only [if_true] at r
      obtain ⟨a, dx, vs, os', rfl, _⟩ := r; rfl
  case tup xs => obtain ⟨_, a, vs, rfl, _⟩ := r; rfl
  case exv c xs => obtain ⟨_, a, dd, vs, rfl, _⟩ := r; rfl
  case rng a b => obtain ⟨_, a, rfl, _⟩ := r; rfl
  case cls c => obtain ⟨⟨rfl, _⟩, _⟩ := r; rfl
  all_goals (obtain ⟨rfl, _⟩ := r; rfl)

theorem op_cmp (hK : X.K = R.K) (hu : X.A.units + 64 < cLine) (o : Cop) : OpR X (compareOp (copO o)) (rCmp R o) := by
  intro pins s σ H x y v u Q I rx ry h
  obtain ⟨A, a, b, k, os1, os2, r1, r2, e, q⟩ := h
  have eqc : ∀ {k}, eqD a b = some k → ∃ p t as bs, Reads s.heap v p as ∧ Reads s.heap u t bs ∧ SeqAt.shaped p = true ∧ SeqAt.shaped t = true ∧ PyData.eqv p t = k := by
    intro k e
    unfold eqD at e
    split at e
    · rename_i p t e1 e2
      split at e
      · rename_i hs
        simp only [Bool.and_eq_true] at hs
        obtain ⟨as, k1⟩ := r1.reads hK I e1 rx
        obtain ⟨bs, k2⟩ := r2.reads hK I e2 ry
        exact ⟨p, t, as, bs, k1, k2, hs.1, hs.2, by simpa using e⟩
      · cases e
    · cases e
  unfold cmpD at e
  split at e
  · obtain ⟨p, t, as, bs, k1, k2, h1, h2, e3⟩ := eqc e
    exact SeqAt.compareEq_shaped k1 k2 h1 h2 hu ⟨.bl k, H, I, by rw [← e3]; rfl, q⟩
  · simp only [Option.map_eq_some_iff] at e
    obtain ⟨k', e, rfl⟩ := e
    obtain ⟨p, t, as, bs, k1, k2, h1, h2, e3⟩ := eqc e
    exact SeqAt.compareNe_shaped k1 k2 h1 h2 hu ⟨.bl (!k'), H, I, by rw [← e3]; rfl, q⟩
  · rw [r1.int] at rx; rw [r2.int] at ry; cases e
    exact op_lt pins s σ H _ _ v u Q I rx ry ⟨_, _, rfl, rfl, q⟩
  · rw [r1.int] at rx; rw [r2.int] at ry; cases e
    exact op_le pins s σ H _ _ v u Q I rx ry ⟨_, _, rfl, rfl, q⟩
  · rw [r1.int] at rx; rw [r2.int] at ry; cases e
    exact op_gt pins s σ H _ _ v u Q I rx ry ⟨_, _, rfl, rfl, q⟩
  · rw [r1.int] at rx; rw [r2.int] at ry; cases e
    exact op_ge pins s σ H _ _ v u Q I rx ry ⟨_, _, rfl, rfl, q⟩
  · cases e
theorem op_is (o : Cop) (ho : o = .is ∨ o = .isn) : OpR X (compareOp (copO o)) (rIsN R o) := by
  intro pins s σ H x y v u Q I rx ry h
  obtain ⟨A, a, os1, r1, e, h⟩ := h
  subst e
  have en := r1.isNon
  rcases h with ⟨rfl, q⟩ | ⟨rfl, q⟩
  · exact op_isN pins s σ H x _ v u Q I rx ry ⟨rfl, by rw [en]; exact q⟩
  · exact op_notN pins s σ H x _ v u Q I rx ry ⟨rfl, by rw [en]; exact q⟩

/-! ### + - * // % ** -/
theorem vint {i : Int} {x : V} {os : List Addr} {v : Value} (r : RP R H A (.int i) x os) (rx : RelV x v) : RelV (.int i) v := by rw [r.int] at rx; exact rx
theorem lenOk_line {n : Nat} (h : lenOk n = true) : n ≤ sizeLine := by
  unfold lenOk at h
  have := of_decide_eq_true h
  rw [sizeLine_eq]; omega
theorem cat_sq {pins : List (Addr × Obj)} {s : Shared} {σ : L2.St} {l b : Addr} {xs zs : List V} {Q : VK} (I : Inv X pins σ H s) (h1 : SqL X.K H l xs) (h2 : SqL X.K H b zs) (hz : xs.length + zs.length ≤ sizeLine)
    (q : ∀ p, H p = none → Q (.ref p) (upd H p (.lst (xs ++ zs)))) : wpAny (model X.prog X.w) X.A (binaryOp .Add (.ref l) (.ref b)) (EP X pins σ Q) X.xe s := by
  obtain ⟨its, r, ⟨o, n, ho, hc, hn, hd⟩, z1⟩ := I.list h1
  obtain ⟨its2, r2, ⟨o2, n2, ho2, hc2, hn2, hd2⟩, z2⟩ := I.list h2
  obtain ⟨oc, od, dt, sl⟩ := o
  obtain ⟨oc2, od2, dt2, sl2⟩ := o2
  simp only at hc hn hd hc2 hn2 hd2
  subst hc hn hd hc2 hn2 hd2
  have e1 := r.length
  have e2 := r2.length
  have hsz : its.toArray.size + its2.toArray.size ≤ sizeLine := by rw [List.size_toArray, List.size_toArray]; omega
  refine concat_meets ⟨_, ho, rfl⟩ ⟨_, ho2, rfl⟩ noFill_list_add seq_list_add PySem.F.slot_list_add PySem.F.entry_list_add (PySem.F.args_list_add_2 _ _) (list_addW l b its.toArray its2.toArray n n2 none none sl sl2 hsz) ⟨ho, ho2, ?_⟩
  have ea : its.toArray ++ its2.toArray = (its ++ its2).toArray := by simp
  rw [ea]
  exact ⟨.ref _, _, I.lnew (t' := s.toks) (r.append r2) (by rw [List.length_append]; omega), rfl, q _ I.fresh⟩
theorem RPs.rep {ds : List D} {vs : List V} (h : RPs R H A ds vs []) : ∀ n : Nat, RPs R H A (List.replicate n ds).flatten (List.replicate n vs).flatten []
  | 0 => RPs.nil
  | n + 1 => by
    rw [List.replicate_succ, List.replicate_succ, List.flatten_cons, List.flatten_cons]
    exact h.append0 (RPs.rep h n)
theorem RPs.ne {ds : List D} {vs : List V} {os : List Addr} (h : RPs R H A ds vs os) (e : ds.isEmpty = false) : vs ≠ [] := fun z => by
  have := h.length
  rw [z] at this
  cases ds with
  | nil => cases e
  | cons a b => simp at this
theorem RPs.eq_nil {ds : List D} {vs : List V} {os : List Addr} (h : RPs R H A ds vs os) (e : vs = []) : ds = [] := by
  have := h.length
  rw [e] at this
  exact List.eq_nil_of_length_eq_zero this.symm
theorem tuple_mul1 (l : Addr) (items : Array Value) (n : Nat) (dd : Option Addr) (sl : Array (Option Value)) (u : Tok) (c1 : items.isEmpty = false) :
    Meets (Builtin.«tuple.__mul__» ⟨[.ref l, .int 1 u], []⟩) (fun _ R s => s.heap.get? l = some { cls := .type "tuple", dict := dd, data := .seq items n, slots := sl } ∧ R (.ok (.ret (Value.ref l))) s) :=
  .of_wp fun prog w A R s h => by
    obtain ⟨hp, g, d, tk, os⟩ := s
    obtain ⟨hl, h⟩ := h
    have f1 := AutoSeq1.idx_int
    wp_walk using wpAny_loadPart' hl
    exact ⟨_, rfl, h⟩
theorem rep_one {l : Addr} {xs : List V} {pins : List (Addr × Obj)} {s : Shared} {σ : L2.St} {Q : VK} {t : Tok} (I : Inv X pins σ H s) (hT : SqT X.K H l xs) (hne : xs ≠ []) (q : Q (.ref l) H) :
    wpAny (model X.prog X.w) X.A (binaryOp .Mult (.ref l) (.int 1 t)) (EP X pins σ Q) X.xe s := by
  obtain ⟨its, r, ⟨⟨cls, dd, data, sl⟩, ho, hc, n, hd⟩, hs⟩ := I.tuple hT
  simp only at hc hd
  subst hc hd
  have hi : its.toArray.isEmpty = false := by
    cases its with
    | nil => exact absurd (by cases r; rfl) hne
    | cons a b => rfl
  exact wpAny_binaryOp_repeat_ref (T := "tuple") (U := "int") (by decide) ⟨_, ho, rfl⟩ (fun s' => typeIs_int s' 1 t) noFill_tuple_mul F.fills_int_mul F.slot_int_rmul repeat_tuple F.slot_int_index.lookup
    (call_meets F.slot_int_rmul (typeIs_int s 1 t) F.entry_int_rmul (F.args_int_rmul_2 _ _) (int_rmul_tuple 1 t l its.toArray n dd sl)
      ⟨ho, rfl, ⟨_, ho, rfl⟩, call_meets F.slot_tuple_mul ⟨_, ho, rfl⟩ F.entry_tuple_mul (F.args_tuple_mul_2 _ _) (tuple_mul1 l its.toArray n dd sl t hi) ⟨ho, ⟨.ref l, H, I, rfl, q⟩⟩⟩)

theorem op_bin (hK : X.K = R.K) (o : Bop) : OpR X (binaryOp (bopO o)) (rBin R o) := by
  intro pins s σ H x y v u Q I rx ry h
  obtain ⟨A, a, b, d, os1, os2, r1, r2, e, n⟩ := h
  unfold binD at e
  split at e
  · cases e
    exact op_add pins s σ H _ _ v u Q I (vint r1 rx) (vint r2 ry) ⟨_, _, rfl, rfl, n.here RP.mkInt⟩
  · cases e
    exact op_sub pins s σ H _ _ v u Q I (vint r1 rx) (vint r2 ry) ⟨_, _, rfl, rfl, n.here RP.mkInt⟩
  · split at e <;> cases e
    rename_i hb
    exact op_mul pins s σ H _ _ v u Q I (vint r1 rx) (vint r2 ry) ⟨_, _, rfl, rfl, (show CMul _ _ from of_decide_eq_true (p := (-(2 ^ 64) < _ ∧ _ < 2 ^ 64) ∨ (-(2 ^ 64) < _ ∧ _ < 2 ^ 64)) hb), n.here RP.mkInt⟩
  · split at e <;> cases e
    rename_i hb
    simp only [Bool.and_eq_true, decide_eq_true_eq] at hb
    exact op_fdiv pins s σ H _ _ v u Q I (vint r1 rx) (vint r2 ry) ⟨_, _, rfl, rfl, hb, n.here RP.mkInt⟩
  · split at e <;> cases e
    rename_i hb
    exact op_mod pins s σ H _ _ v u Q I (vint r1 rx) (vint r2 ry) ⟨_, _, rfl, rfl, of_decide_eq_true hb, n.here RP.mkInt⟩
  · split at e <;> cases e
    rename_i hb
    simp only [Bool.and_eq_true, decide_eq_true_eq] at hb
    exact op_pow pins s σ H _ _ v u Q I (vint r1 rx) (vint r2 ry) ⟨_, _, rfl, rfl, ⟨hb.1.1, by omega, by omega⟩, n.here RP.mkInt⟩
  · split at e <;> cases e
    rename_i as bs hb
    rw [r1.str] at rx; rw [r2.str] at ry
    refine op_add_str pins s σ H _ _ v u Q I rx ry ⟨_, _, rfl, rfl, ?_, ?_⟩
    · have := lenOk_line hb
      simpa [Str.length] using this
    · have e2 : (Str.mk (as ++ bs).toArray) = (Str.mk as.toArray ++ Str.mk bs.toArray : Str) := by
        show Str.mk _ = Str.mk _
        simp
      rw [← e2]
      exact n.here RP.mkStr
  · split at e <;> cases e
    rename_i hb
    simp only [Bool.and_eq_true] at hb
    obtain ⟨a1, vs, o1, rfl, h1, k1, sl1⟩ := r1.lstD
    obtain ⟨a2, ws, o2, rfl, h2, k2, sl2⟩ := r2.lstD
    cases rx; cases ry
    have z1 := k1.fz_nil hb.1.2
    have z2 := k2.fz_nil hb.2
    subst z1 z2
    exact cat_sq I (hK ▸ h1) (hK ▸ h2) (by rw [k1.length, k2.length]; exact lenOk_line hb.1.1) fun p hp => n.lst hp (k1.append0 k2)
  · split at e <;> cases e
    rename_i hb
    simp only [Bool.and_eq_true, Bool.not_eq_true'] at hb
    obtain ⟨z1, a1, vs, rfl, h1, k1⟩ := r1.tupD
    obtain ⟨_, a2, ws, rfl, h2, k2⟩ := r2.tupD
    subst z1
    refine op_catA pins s σ H _ _ v u Q I rx ry ⟨a1, a2, vs, ws, rfl, rfl, hK ▸ h1, hK ▸ h2, by rw [k1.length, k2.length]; exact lenOk_line hb.1, fun z => absurd z (k1.ne hb.2), fun _ z => ?_, fun _ _ p hp => n.tup hp (k1.append0 k2)⟩
    have z' := k2.eq_nil z
    subst z'
    rw [List.append_nil] at n
    exact n.here r1
  · split at e <;> cases e
    rename_i ds k hb
    simp only [Bool.and_eq_true, Bool.not_eq_true', decide_eq_true_eq] at hb
    obtain ⟨z1, a1, vs, rfl, h1, k1⟩ := r1.tupD
    subst z1
    by_cases hk : k = 1
    · subst hk
      cases rx
      rw [r2.int] at ry
      obtain ⟨t, rfl⟩ := ry
      refine rep_one I (hK ▸ h1) (k1.ne hb.2) ?_
      have e1 : (List.replicate (Int.toNat 1) ds).flatten = ds := by simp
      rw [e1] at n
      exact n.here r1
    · refine op_repT pins s σ H _ _ v u Q I rx (vint r2 ry) ⟨a1, k, vs, rfl, rfl, hK ▸ h1, k1.ne hb.2, by omega, hb.1.1.2, by rw [k1.length]; exact hb.1.2, fun p hp => n.tup hp (k1.rep _)⟩
  · cases e

/-! ### truth -/
theorem tru_of {d : D} {v : V} {os : List Addr} {b : Bool} (r : RP R H A d v os) (e : truth d = some b) : TruV R.K v H b := by
  cases d <;> simp only [truth, Option.some.injEq, reduceCtorEq] at e
  case non => rw [r.non]; exact e.symm
  case bl => rw [r.bl]; exact e.symm
  case int i =>
    rw [r.int]
    show b = (i != 0)
    rw [← e, bne, Bool.beq_eq_decide_eq]
    by_cases h : i = 0 <;> simp [h]
  case tup xs =>
    obtain ⟨_, a, vs, rfl, h, k⟩ := r.tupD
    refine .inr (.inl ⟨vs, h, ?_⟩)
    have := k.length
    rw [← e]
    cases vs <;> cases xs <;> simp at this ⊢
  case lst o xs =>
    obtain ⟨a, vs, os', rfl, h, k, _⟩ := r.lstD
    refine .inl ⟨vs, h, ?_⟩
    have := k.length
    rw [← e]
    cases vs <;> cases xs <;> simp at this ⊢
end

/-! ### built-in functions -/
def bltV : Blt → Value
  | .int => .type "int" | .tuple => .type "tuple" | .list => .type "list" | .range => .type "range"
  | .len => .builtin "len" | .sum => .builtin "sum" | .min => .builtin "min" | .max => .builtin "max" | .all => .builtin "all" | .any => .builtin "any"
  | .abs => .builtin "abs" | .isinst => .builtin "isinstance" | .sorted => .builtin "sorted" | .gcd => .builtin "gcd"

/-- what is asked of the class at c -/
structure InC (R : Rt) (c : Nat) : Prop where
  cls : Cls R.K (R.ca c)
  ha : PySem.W.findIn R.K (.ref (R.ca c)) "__class__" = some (some (.builtin "object.__class__"))
  hn : PySem.W.specialIn R.K (.builtin "object.__class__") "__get__" = some (some (.builtin "getset_descriptor.__get__"))
  htk : PySem.W.takesIn R.K (.builtin "object.__class__") = some true
  hm : PySem.W.mroIn R.K (R.ca c) (.type "object") = some true
  ty : ∀ n ∈ (["int", "bool", "list", "tuple", "str"] : List String), PySem.W.kitOne R.K (.ref (R.ca c)) (.type n) = some false
  own : ∀ k, k < R.nc → PySem.W.kitOne R.K (.ref (R.ca c)) (.ref (R.ca k)) = some (decide (c = k))
  bi : ∀ t ∈ (["int", "bool", "list", "tuple", "str", "NoneType"] : List String), PySem.W.kitOne R.K (.type t) (.ref (R.ca c)) = some false
def InCs (R : Rt) : Prop := ∀ c, c < R.nc → InC R c

theorem kit_bb {K : PySem.W.Frag} : ∀ t ∈ (["int", "bool", "list", "tuple", "str", "NoneType"] : List String), ∀ n ∈ (["int", "bool", "list", "tuple", "str"] : List String),
    PySem.W.kitOne K (.type t) (.type n) = some (t == n || (t == "bool" && n == "int")) := by
  intro t ht n hn
  simp only [List.mem_cons, List.not_mem_nil, or_false] at ht hn
  rcases ht with rfl | rfl | rfl | rfl | rfl | rfl <;> rcases hn with rfl | rfl | rfl | rfl | rfl <;> rfl
end VS
set_option Elab.async false
set_option linter.all false
set_option maxRecDepth 100000
set_option maxHeartbeats 2000000
/-! VSg: the built-in functions. -/
namespace VS
open PySem PySem.Spec PyProof.Rows L2
section
variable {R : Rt} {X : Cx} {A : Av} {H : Hp}
def tyNm : D → String
  | .non => "NoneType" | .bl _ => "bool" | .int _ => "int" | .str _ => "str" | .tup _ => "tuple" | .lst _ _ => "list" | _ => ""
theorem tyx_list {K : PySem.W.Frag} {a : Addr} {vs : List V} (h : SqL K H a vs) : TyX K H (.ref a) (.type "list") := by
  rcases h with (h | ⟨o, h⟩) | ⟨o, its, n, hk, hc, _⟩
  · exact .base (.lst h)
  · exact .base (.frz h)
  · exact .kList hk hc
theorem tyx_tup {K : PySem.W.Frag} {a : Addr} {vs : List V} (h : SqT K H a vs) : TyX K H (.ref a) (.type "tuple") := by
  rcases h with (h | ⟨o, h⟩) | ⟨o, its, n, hk, hc, _⟩
  · exact .base (.tup h)
  · exact .fTuple h
  · exact .kTuple hk hc
theorem tyx_of {d : D} {v : V} {os : List Addr} (r : RP R H A d v os) (h : tyNm d ≠ "") : TyX R.K H v (.type (tyNm d)) := by
  cases d <;> simp only [tyNm, ne_eq, not_true_eq_false, reduceCtorEq, not_false_eq_true] at h ⊢
  case non => rw [r.non]; exact .base .non
  case bl b => rw [r.bl]; exact .base (.bl _)
  case int i => rw [r.int]; exact .base (.int _)
  case str x => rw [r.str]; exact .base (.str _)
  case tup xs =>
    obtain ⟨_, a, vs, rfl, h, k⟩ := r.tupD
    exact tyx_tup h
  case lst o xs =>
    obtain ⟨a, vs, os', rfl, h, k, _⟩ := r.lstD
    exact tyx_list h
theorem tyx_obj (W : InCs R) {o : Bool} {c : Nat} {xs : List D} {v : V} {os : List Addr} (r : RP R H A (.obj o c xs) v os) : c < R.nc ∧ TyX R.K H v (.ref (R.ca c)) := by
  unfold RP at r
  cases o with
  | true =>
    simp only [if_true] at r
    obtain ⟨a, dx, vs, os', rfl, _, e, ⟨_, hc⟩, _⟩ := r
    have w := W c hc
    exact ⟨hc, .base (.ins e w.cls w.ha w.hn w.htk w.hm)⟩
  | false =>
    simp only [Bool.false_eq_true, if_false] at r
    obtain ⟨_, a, dx, vs, rfl, _, e, ⟨_, hc⟩, _⟩ := r
    have w := W c hc
    exact ⟨hc, .base (.ins e w.cls w.ha w.hn w.htk w.hm)⟩
/-- isinstance of one class -/
theorem isinst_one (W : InCs R) {a k : D} {b : Bool} {v w : V} {os1 os2 : List Addr} (r1 : RP R H A a v os1) (r2 : RP R H A k w os2) (e : isinst1 a k = some b) :
    ∃ t u, ClsV w u ∧ TyX R.K H v t ∧ PySem.W.kitOne R.K t u = some b := by
  have bb : ∀ {n : String} {w : V}, RP R H A (.ty n) w os2 → n ∈ (["int", "bool", "list", "tuple", "str"] : List String) → ∀ {d : D} {v : V}, RP R H A d v os1 → ∀ {t : String}, tyNm d = t → t ∈ (["int", "bool", "list", "tuple", "str", "NoneType"] : List String) →
      ∀ {b : Bool}, (t == n || (t == "bool" && n == "int")) = b → ∃ t u, ClsV w u ∧ TyX R.K H v t ∧ PySem.W.kitOne R.K t u = some b := fun {n w} r2 hn {d v} r1 {t} ht hd {b} hb => by
    unfold RP at r2
    rw [r2.1]
    subst ht
    subst hb
    exact ⟨_, _, .ty n, tyx_of r1 (fun z => by rw [z] at hd; revert hd; decide), kit_bb _ hd _ hn⟩
  have ob : ∀ {n : String} {w : V}, RP R H A (.ty n) w os2 → n ∈ (["int", "bool", "list", "tuple", "str"] : List String) → ∀ {o : Bool} {c : Nat} {xs : List D} {v : V}, RP R H A (.obj o c xs) v os1 →
      ∃ t u, ClsV w u ∧ TyX R.K H v t ∧ PySem.W.kitOne R.K t u = some false := fun {n w} r2 hn {o c xs v} r1 => by
    unfold RP at r2
    rw [r2.1]
    obtain ⟨hc, t⟩ := tyx_obj W r1
    exact ⟨_, _, .ty n, t, (W c hc).ty n hn⟩
  have bo : ∀ {k : Nat} {w : V}, RP R H A (.cls k) w os2 → ∀ {d : D} {v : V}, RP R H A d v os1 → ∀ {t : String}, tyNm d = t → t ∈ (["int", "bool", "list", "tuple", "str", "NoneType"] : List String) →
      ∃ t u, ClsV w u ∧ TyX R.K H v t ∧ PySem.W.kitOne R.K t u = some false := fun {k w} r2 {d v} r1 {t} ht hd => by
    unfold RP at r2
    obtain ⟨⟨rfl, hk⟩, _⟩ := r2
    subst ht
    exact ⟨_, _, .own _, tyx_of r1 (fun z => by rw [z] at hd; revert hd; decide), (W k hk).bi _ hd⟩
  unfold isinst1 at e
  split at e <;> first
    | (cases e; exact ob r2 (by decide) r1)
    | (cases e; exact bo r2 r1 (t := "int") rfl (by decide))
    | (cases e; exact bo r2 r1 (t := "bool") rfl (by decide))
    | (cases e; exact bo r2 r1 (t := "list") rfl (by decide))
    | (cases e; exact bo r2 r1 (t := "tuple") rfl (by decide))
    | (cases e; exact bo r2 r1 (t := "str") rfl (by decide))
    | (cases e; exact bo r2 r1 (t := "NoneType") rfl (by decide))
    | (cases e; exact bb r2 (by decide) r1 (t := "int") rfl (by decide) (by decide))
    | (cases e; exact bb r2 (by decide) r1 (t := "bool") rfl (by decide) (by decide))
    | (cases e; exact bb r2 (by decide) r1 (t := "list") rfl (by decide) (by decide))
    | (cases e; exact bb r2 (by decide) r1 (t := "tuple") rfl (by decide) (by decide))
    | (cases e; exact bb r2 (by decide) r1 (t := "str") rfl (by decide) (by decide))
    | (cases e; exact bb r2 (by decide) r1 (t := "NoneType") rfl (by decide) (by decide))
    | cases e
    | skip
  · unfold RP at r2
    obtain ⟨⟨rfl, hk⟩, _⟩ := r2
    obtain ⟨hc, t⟩ := tyx_obj W r1
    exact ⟨_, _, .own _, t, (W _ hc).own _ hk⟩

theorem isinst_lt (W : InCs R) {a : D} {v : V} {os1 : List Addr} {b : Bool} (r1 : RP R H A a v os1) (e : isLT a = some b) : ∃ t, TyX R.K H v t ∧ PySem.W.kitAny R.K t [.type "list", .type "tuple"] = some b := by
  have bb : ∀ {t : String}, t ∈ (["int", "bool", "list", "tuple", "str", "NoneType"] : List String) → PySem.W.kitAny R.K (.type t) [.type "list", .type "tuple"] = some (t == "list" || t == "tuple") := fun {t} ht => by
    unfold PySem.W.kitAny PySem.W.kitAny PySem.W.kitAny
    rw [kit_bb t ht "list" (by decide), kit_bb t ht "tuple" (by decide)]
    simp only [List.mem_cons, List.not_mem_nil, or_false] at ht
    rcases ht with rfl | rfl | rfl | rfl | rfl | rfl <;> rfl
  have go : ∀ {t : String}, tyNm a = t → t ∈ (["int", "bool", "list", "tuple", "str", "NoneType"] : List String) → (t == "list" || t == "tuple") = b → ∃ t, TyX R.K H v t ∧ PySem.W.kitAny R.K t [.type "list", .type "tuple"] = some b := fun {t} ht hm hb => by
    subst ht
    refine ⟨_, tyx_of r1 (fun z => by rw [z] at hm; revert hm; decide), ?_⟩
    rw [bb hm, hb]
  cases a <;> simp only [isLT, Option.some.injEq, reduceCtorEq] at e
  case obj o c xs =>
    obtain ⟨hc, t⟩ := tyx_obj W r1
    refine ⟨_, t, ?_⟩
    unfold PySem.W.kitAny PySem.W.kitAny PySem.W.kitAny
    rw [(W c hc).ty "list" (by decide), (W c hc).ty "tuple" (by decide), ← e]
  case non => exact go (t := "NoneType") rfl (by decide) (by rw [← e]; decide)
  case bl => exact go (t := "bool") rfl (by decide) (by rw [← e]; decide)
  case int => exact go (t := "int") rfl (by decide) (by rw [← e]; decide)
  case str => exact go (t := "str") rfl (by decide) (by rw [← e]; decide)
  case tup => exact go (t := "tuple") rfl (by decide) (by rw [← e]; decide)
  case lst => exact go (t := "list") rfl (by decide) (by rw [← e]; decide)

theorem RVs.one {d : D} {vs : List V} (h : RVs R H A [d] vs) : ∃ v os, vs = [v] ∧ RP R H A d v os := by
  unfold RVs at h
  obtain ⟨v, vs', os, rfl, r, h⟩ := h
  unfold RVs at h
  subst h
  exact ⟨v, os, rfl, r⟩
theorem RVs.two {d e : D} {vs : List V} (h : RVs R H A [d, e] vs) : ∃ v w os us, vs = [v, w] ∧ RP R H A d v os ∧ RP R H A e w us := by
  unfold RVs at h
  obtain ⟨v, vs', os, rfl, r, h⟩ := h
  obtain ⟨w, us, rfl, r2⟩ := h.one
  exact ⟨v, w, os, us, rfl, r, r2⟩

theorem cr_list_rng (hc : X.calm = true) : CallR X (.type "list") (fun xs H Q => ∃ q a b, xs = [.ref q] ∧ H q = some (.rng a b) ∧ RgOk a b ∧ ∀ p, H p = none → Q (.ref p) (upd H p (.lst (rgV a b)))) := by
  intro pins s σ H xs us Q I r h
  obtain ⟨r1, a, b, rfl, hr, ⟨b1, b2, b3, b4, b5⟩, q⟩ := h
  obtain ⟨u, rfl, ru⟩ := vals1 r
  cases ru
  obtain ⟨t, u, v, e⟩ := (show ObjOk X.prog X.w H s.heap r1 (.rng a b) from I.hok r1 _ hr)
  refine call_list_range (n := (b - a).toNat) (t := t) (u := u) (v := v) (I.ok.hd hc) e (small_one b1 b2 b3 b4) (rangeSize_nat a b) b5 fun h' tk acc c' hk e' hi => ?_
  refine ⟨.ref s.heap.objs.size, upd H s.heap.objs.size (.lst (rgV a b)), I.laid hk (Nat.le_refl _) (show ObjOk X.prog X.w _ _ _ (.lst (rgV a b)) from ⟨?_, acc.toList, c', vals_rg hi, ?_⟩), rfl, q _ (I.hok.fresh (Nat.le_refl _))⟩
  · rw [rgV_length, sizeLine_eq]; omega
  · rw [Array.toArray_toList]; exact e'
theorem cr_range1 : CallR X (.type "range") (fun vs H Q => ∃ j, vs = [V.int j] ∧ ∀ p, H p = none → Q (.ref p) (upd H p (.rng 0 j))) := by
  intro pins s σ H vs us Q I r h
  obtain ⟨j, rfl, q⟩ := h
  obtain ⟨u, rfl, ru⟩ := vals1 r
  obtain ⟨t', rfl⟩ := ru
  refine call_range_1 ⟨.ref s.heap.objs.size, upd H s.heap.objs.size (.rng 0 j), I.laid (t' := s.toks + 2) (fun b o e => Heap.get?_push_of_some _ e) (Nat.le_refl _) ?_, rfl, q _ (I.hok.fresh (Nat.le_refl _))⟩
  exact ⟨_, _, _, Heap.get?_push_size _ rfl⟩
theorem RPs.rng {a : Int} : ∀ n : Nat, RPs R H A ((List.range n).map fun (k : Nat) => D.int (a + k)) ((List.range n).map fun i => V.int (a + (i : Nat))) [] := fun n => by
  generalize List.range n = l
  induction l with
  | nil => exact RPs.nil
  | cons k l ih => exact RPs.cons RP.mkInt ih

theorem smallI_le {i : Int} (h : smallI i = true) : -(2 ^ 62) ≤ i ∧ i < 2 ^ 62 := by
  unfold smallI at h
  simp only [Bool.and_eq_true, decide_eq_true_eq] at h
  omega
theorem cr_blt (hK : X.K = R.K) (W : InCs R) (hc : X.calm = true) (b : Blt) : CallR X (bltV b) (rBlt R b) := by
  intro pins s σ H vs us Q I r h
  obtain ⟨A, ds, d, rv, e, n⟩ := h
  unfold bltD at e
  split at e
  · obtain ⟨v, os, rfl, r1⟩ := rv.one
    cases e
    obtain ⟨a, vs, os', rfl, h, k, _⟩ := r1.lstD
    exact call_len_seq pins s σ H _ us Q I r ⟨a, vs, rfl, .inl (hK ▸ h), by rw [k.length]; exact n.here RP.mkInt⟩
  · obtain ⟨v, os, rfl, r1⟩ := rv.one
    cases e
    obtain ⟨_, a, vs, rfl, h, k⟩ := r1.tupD
    exact call_len_seq pins s σ H _ us Q I r ⟨a, vs, rfl, .inr (hK ▸ h), by rw [k.length]; exact n.here RP.mkInt⟩
  · obtain ⟨v, os, rfl, r1⟩ := rv.one
    split at e <;> cases e
    rename_i hb
    rw [r1.str] at r
    exact call_len_str pins s σ H _ us Q I r ⟨_, rfl, by have := lenOk_line hb; simpa [Str.length] using this, by
      have z := n.here RP.mkInt
      simpa [Str.length] using z⟩
  · obtain ⟨v, os, rfl, r1⟩ := rv.one
    cases e
    rw [r1.int] at r
    exact call_int1 pins s σ H _ us Q I r (.inl ⟨_, rfl, n.here RP.mkInt⟩)
  · obtain ⟨v, os, rfl, r1⟩ := rv.one
    split at e <;> cases e
    rename_i hb
    obtain ⟨a, vs, os', rfl, h, k, _⟩ := r1.lstD
    have z := k.fz_nil hb
    subst z
    exact call_tuple_of pins s σ H _ us Q I r ⟨a, vs, rfl, .inl ⟨hK ▸ h, fun l hl => n.tup hl k⟩⟩
  · obtain ⟨v, os, rfl, r1⟩ := rv.one
    cases e
    obtain ⟨z, a, vs, rfl, h, k⟩ := r1.tupD
    subst z
    exact call_tuple_of pins s σ H _ us Q I r ⟨a, vs, rfl, .inr ⟨hK ▸ h, n.here r1⟩⟩
  · obtain ⟨v, os, rfl, r1⟩ := rv.one
    split at e <;> cases e
    rename_i hb
    obtain ⟨a, vs, os', rfl, h, k, _⟩ := r1.lstD
    have z := k.fz_nil hb
    subst z
    exact call_list_of pins s σ H _ us Q I r ⟨a, vs, rfl, .inl (hK ▸ h), fun l hl => n.lst hl k⟩
  · obtain ⟨v, os, rfl, r1⟩ := rv.one
    split at e <;> cases e
    rename_i hb
    obtain ⟨_, a, vs, rfl, h, k⟩ := r1.tupD
    exact call_list_of pins s σ H _ us Q I r ⟨a, vs, rfl, .inr (hK ▸ h), fun l hl => n.lst hl k⟩
  · obtain ⟨v, os, rfl, r1⟩ := rv.one
    split at e <;> cases e
    rename_i hb
    simp only [Bool.and_eq_true, decide_eq_true_eq] at hb
    have h1 := smallI_le hb.1
    have h2 := smallI_le hb.2.1
    unfold RP at r1
    obtain ⟨_, a, rfl, h⟩ := r1
    exact cr_list_rng hc pins s σ H _ us Q I r ⟨a, _, _, rfl, h, ⟨h1.1, h1.2, h2.1, h2.2, by omega⟩, fun p hp => n.lst hp (RPs.rng _)⟩
  · obtain ⟨v, os, rfl, r1⟩ := rv.one
    simp only [Option.map_eq_some_iff] at e
    obtain ⟨l, e, rfl⟩ := e
    obtain ⟨a, vs, os', rfl, h, k, _⟩ := r1.lstD
    have z := k.ints e
    subst z
    exact cr_sum hc pins s σ H _ us Q I r ⟨a, l, rfl, hK ▸ h, n.here RP.mkInt⟩
  · obtain ⟨v, w, os, os2, rfl, r1, r2⟩ := rv.two
    cases e
    rw [r1.int, r2.int] at r
    exact call_min2 hc pins s σ H _ us Q I r ⟨_, _, rfl, n.here RP.mkInt⟩
  · obtain ⟨v, w, os, os2, rfl, r1, r2⟩ := rv.two
    cases e
    rw [r1.int, r2.int] at r
    exact call_max2 hc pins s σ H _ us Q I r ⟨_, _, rfl, n.here RP.mkInt⟩
  · obtain ⟨v, os, rfl, r1⟩ := rv.one
    simp only [Option.map_eq_some_iff] at e
    obtain ⟨l, e, rfl⟩ := e
    obtain ⟨a, vs, os', rfl, h, k, _⟩ := r1.lstD
    have z := k.bls e
    subst z
    exact cr_all hc pins s σ H _ us Q I r ⟨a, l, rfl, hK ▸ h, n.here RP.mkBl⟩
  · obtain ⟨v, os, rfl, r1⟩ := rv.one
    simp only [Option.map_eq_some_iff] at e
    obtain ⟨l, e, rfl⟩ := e
    obtain ⟨a, vs, os', rfl, h, k, _⟩ := r1.lstD
    have z := k.bls e
    subst z
    exact cr_any hc pins s σ H _ us Q I r ⟨a, l, rfl, hK ▸ h, n.here RP.mkBl⟩
  · obtain ⟨v, os, rfl, r1⟩ := rv.one
    cases e
    rw [r1.int] at r
    exact call_abs pins s σ H _ us Q I r ⟨_, rfl, n.here RP.mkInt⟩
  · obtain ⟨v, os, rfl, r1⟩ := rv.one
    split at e <;> cases e
    rw [r1.int] at r
    refine cr_range1 pins s σ H _ us Q I r ⟨_, rfl, fun p hp => n _ _ [] (Gr.new hp) (by simp) (by simp) ?_⟩
    unfold RP
    exact ⟨rfl, p, rfl, upd_same⟩
  · obtain ⟨v, w, os, os2, rfl, r1, r2⟩ := rv.two
    split at e <;> cases e
    rw [r1.int, r2.int] at r
    refine cr_range2 pins s σ H _ us Q I r ⟨_, _, rfl, fun p hp => n _ _ [] (Gr.new hp) (by simp) (by simp) ?_⟩
    unfold RP
    exact ⟨rfl, p, rfl, upd_same⟩
  · obtain ⟨v, w, os, os2, rfl, r1, r2⟩ := rv.two
    simp only [Option.map_eq_some_iff] at e
    obtain ⟨b, e, rfl⟩ := e
    obtain ⟨_, tp, cs, rfl, ht, k⟩ := r2.tupD
    obtain ⟨t, ty, kk⟩ := isinst_lt W r1 e
    obtain ⟨u1, u2, rfl, q1, q2⟩ := vals2 r
    cases (show u2 = Value.ref tp from q2)
    obtain ⟨P, Z, p, hx⟩ := kit_of I q1 (hK ▸ ty)
    obtain ⟨its, rv2, ⟨⟨oc, od, dt, sl⟩, ho, hcl, nn, hd⟩, _⟩ := I.tuple (hK ▸ ht)
    simp only at hcl hd
    subst hcl hd
    have eits : its = [.type "list", .type "tuple"] := by
      unfold RPs at k
      obtain ⟨v1, vs1, o1, o2, rfl, _, k1, k⟩ := k
      unfold RPs at k
      obtain ⟨v2, vs2, o3, o4, rfl, _, k2, k⟩ := k
      unfold RPs at k
      obtain ⟨rfl, _⟩ := k
      unfold RP at k1 k2
      rw [k1.1, k2.1] at rv2
      obtain ⟨w1, w2, rfl, z1, z2⟩ := vals2 rv2
      cases z1; cases z2; rfl
    subst eits
    exact PySem.W.kia_tup Z I.kIn p ho (hK ▸ kk) hx fun tk => ⟨.bl b, H, I.tok tk, rfl, n.here RP.mkBl⟩
  · obtain ⟨v, w, os, os2, rfl, r1, r2⟩ := rv.two
    simp only [Option.map_eq_some_iff] at e
    obtain ⟨b, e, rfl⟩ := e
    obtain ⟨t, u, c, ty, kk⟩ := isinst_one W r1 r2 e
    exact call_isi pins s σ H _ us Q I r ⟨v, w, t, u, b, rfl, c, hK ▸ ty, hK ▸ kk, n.here RP.mkBl⟩
  · obtain ⟨v, w, os, os2, rfl, r1, r2⟩ := rv.two
    simp only [Option.map_eq_some_iff] at e
    obtain ⟨b, e, rfl⟩ := e
    obtain ⟨t, u, c, ty, kk⟩ := isinst_one W r1 r2 e
    exact call_isi pins s σ H _ us Q I r ⟨v, w, t, u, b, rfl, c, hK ▸ ty, hK ▸ kk, n.here RP.mkBl⟩
  · cases e
end
end VS
set_option Elab.async false
set_option linter.all false
set_option maxRecDepth 100000
set_option maxHeartbeats 4000000
/-! VTf: own exceptions over Exception, through own classes: made by an own __init__, their fields stored. -/
namespace VS
open PySem PySem.Spec PyProof.Rows L2
open Builtin Builtin.ObjectAttr
abbrev exT : List Value := [.type "Exception", .type "BaseException", .type "object"]
/-- own classes, then Exception's mro -/
def ExM (l : List Value) : Prop := ∃ cs : List Addr, l = cs.map Value.ref ++ exT
theorem ExM.pass (self : Value) {l : List Value} (h : ExM l) : refuseLoop self "__setattr__" l = pure () := by
  obtain ⟨cs, rfl⟩ := h
  induction cs with
  | nil => exact F.store_Exception.passes self
  | cons c cs ih => rw [List.map_cons, List.cons_append, refuseLoop_ref]; exact ih
theorem ExM.has (Y : String) {l : List Value} (h : ExM l) : l.contains (.type Y) = exT.contains (.type Y) := by
  obtain ⟨cs, rfl⟩ := h
  induction cs with
  | nil => rfl
  | cons c cs ih => rw [List.map_cons, List.cons_append, List.contains_cons, ih]; rfl
theorem ExM.ne {l : List Value} (h : ExM l) : l.isEmpty = false := by
  obtain ⟨cs, rfl⟩ := h
  cases cs <;> rfl
theorem ExM.cons {l : List Value} (c : Addr) (h : ExM l) : ExM (.ref c :: l) := by
  obtain ⟨cs, rfl⟩ := h
  exact ⟨c :: cs, rfl⟩
/-- .. told by a look -/
def refsOf : List Value → List Addr
  | .ref c :: r => c :: refsOf r
  | _ => []
def exMb (l : List Value) : Bool := decide (l = (refsOf l).map Value.ref ++ exT)
theorem exMb_ok {l : List Value} (h : exMb l = true) : ExM l := ⟨refsOf l, of_decide_eq_true h⟩
section
variable {prog : Program} {w : World} {A : Around} {E : Value → Shared → Prop} {R : Result → Shared → Prop} {hp : Heap} {g : Array GenState} {d : Drawn} {t : Nat} {os : OsState}
/-- the walk to the own dict -/
theorem sa_walk {K : W.Frag} {name : Str} {tk : Tok} {v : Value} {x C : Addr} {ox : Obj} {od : Option Obj} {cd : ClassData}
    (X : K.In hp) (I : W.InstAt hp x ox C od) (hcd : W.clsIn K C = some cd) (hm : ExM cd.mro) (ha : W.findIn K (.ref C) name = some none)
    (hq : wpAny (model prog w) A.in1 (storeInOwnDict (.ref x) (.ref C) (.str name tk) name v false)
      (fun fin s' => match fin with | .done f => R (.ok f) s' | .again c' => c'.quiet = true ∧ codeAny (model prog w) A c' R s') (fun e s' => R (.error e) s') ⟨hp, g, d, t, os⟩) :
    codeAny (model prog w) A (.call (.builtin "object.__setattr__") ⟨[.ref x, .str name tk, v], []⟩) R ⟨hp, g, d, t, os⟩ := by
  have SF := F.store_object
  have hob : cd.mro.contains (.type "object") = true := (hm.has "object").trans (by decide +kernel)
  have sub : W.Looks (model prog w) hp (isInstance (.ref x) (.type "object")) true := I.type.andThen (W.looks_mroIn X (by unfold W.mroIn; rw [hcd, Option.bind_some, if_neg (by rw [hm.ne]; decide), hob]))
  refine codeAny_call_builtin SF.slot.plain SF.entry (@W.check_slot (model prog w) _ _ ⟨hp, g, d, t, os⟩ "object.__setattr__" "object" "__setattr__" (.ref x) [.str name tk, v] [] _ SF.kind SF.split sub (SF.args (.ref x) (.str name tk) v) ?_)
  have hmr : W.Looks (model prog w) hp (mroOf (.ref C)) cd.mro := (W.looks_clsIn X hcd).andThen .now
  have L3 : W.Looks (model prog w) hp (storeTaker? none) none := .now
  rw [W.osa_eq, refuse_eq]
  refine wpAny_bind (wpAny_bind (I.type.at (wpAny_bind (hmr.at ?_))))
  rw [hm.pass]
  refine wpAny_pure (wpAny_bind (I.type.at (wpAny_bind ((W.looks_findIn X ha).at (wpAny_bind (L3.at ?_))))))
  exact hq
/-- no dict as yet -/
theorem sa_new {K : W.Frag} {name : Str} {tk : Tok} {v : Value} {x C : Addr} {fv : Array Value} {cd : ClassData}
    (X : K.In hp) (hx : hp.get? x = some { cls := .ref C, data := .fields fv }) (hcd : W.clsIn K C = some cd) (hm : ExM cd.mro) (hh : cd.hasDict = true) (ha : W.findIn K (.ref C) name = some none)
    (hq : ∀ h' tk' dx, (∀ b o, b ≠ x → hp.get? b = some o → h'.get? b = some o) → hp.objs.size ≤ dx → dx ≠ x → h'.get? x = some { cls := .ref C, dict := some dx, data := .fields fv } →
      h'.Ns1 dx (fun y => if y = name then some v else none) → R (.ok (.ret .none)) ⟨h', g, d, tk', os⟩) :
    codeAny (model prog w) A (.call (.builtin "object.__setattr__") ⟨[.ref x, .str name tk, v], []⟩) R ⟨hp, g, d, t, os⟩ := by
  have I : W.InstAt hp x { cls := .ref C, data := .fields fv } C none := ⟨hx, rfl, rfl, trivial⟩
  have hxs : x ≠ hp.objs.size := Nat.ne_of_lt (Heap.lt_size hx)
  refine sa_walk X I hcd hm ha ?_
  have hcls : W.Looks (model prog w) hp (classData C) cd := W.looks_clsIn X hcd
  obtain ⟨nm, bs, mro, ns, qn, hd, sn, sb, ab, col, del⟩ := cd
  dsimp only at hh
  subst hh
  unfold storeInOwnDict ownDictForStores
  repeat (first | with_reducible refine HandSPX.store_in_new ?_ ?_ | with_reducible refine wpAny_loadPart_at hx ?_ | with_reducible refine hcls.at ?_ | wp_step)
  · exact ⟨_, #[], _, (Heap.get?_update_ne _ _ _ _ hxs.symm).trans (Heap.get?_push_at rfl rfl), rfl, fun e he => absurd he (by simp), fun _ => rfl⟩
  · intro h' tk' hn' hs
    have hx₁ : (hp.push { cls := .type "dict", data := .dict #[] }).get? x = some { cls := .ref C, data := .fields fv } := Heap.get?_push_of_some _ hx
    refine hq h' tk' hp.objs.size (fun b o hb ho => ?_) (Nat.le_refl _) hxs.symm ?_ hn'
    · exact (hs.2 b (Nat.ne_of_lt (Heap.lt_size ho))).trans ((Heap.get?_update_ne _ _ _ _ hb).trans (Heap.get?_push_of_some _ ho))
    · exact (hs.2 x hxs).trans (Heap.get?_update_self _ hx₁ rfl)
/-- a further field -/
theorem sa_old {K : W.Frag} {name : Str} {tk : Tok} {v : Value} {x C dx : Addr} {fv : Array Value} {cd : ClassData} {m0 : Str → Option Value} {nl : List Str}
    (X : K.In hp) (hx : hp.get? x = some { cls := .ref C, dict := some dx, data := .fields fv }) (hns : hp.Ns1 dx m0) (hw : Within m0 nl) (hz : nl.length ≤ 1000) (hcd : W.clsIn K C = some cd) (hm : ExM cd.mro) (hh : cd.hasDict = true)
    (ha : W.findIn K (.ref C) name = some none)
    (hq : ∀ h' tk', (∀ b o, b ≠ dx → hp.get? b = some o → h'.get? b = some o) → h'.Ns1 dx (fun y => if y = name then some v else m0 y) → R (.ok (.ret .none)) ⟨h', g, d, tk', os⟩) :
    codeAny (model prog w) A (.call (.builtin "object.__setattr__") ⟨[.ref x, .str name tk, v], []⟩) R ⟨hp, g, d, t, os⟩ := by
  obtain ⟨oD, esD, epD, hoD, hdD, _⟩ := hns.count hw
  have I : W.InstAt hp x { cls := .ref C, dict := some dx, data := .fields fv } C (some oD) := ⟨hx, rfl, rfl, hoD⟩
  refine sa_walk X I hcd hm ha ?_
  have hcls : W.Looks (model prog w) hp (classData C) cd := W.looks_clsIn X hcd
  obtain ⟨nm, bs, mro, ns, qn, hd, sn, sb, ab, col, del⟩ := cd
  dsimp only at hh
  subst hh
  unfold storeInOwnDict ownDictForStores
  repeat (first | with_reducible refine PySem.OEX.store_in_old hns hw hz ?_ | with_reducible refine wpAny_loadPart_at hx ?_ | with_reducible refine hcls.at ?_ | wp_step)
  intro h' tk' hn' hs
  exact hq h' tk' (fun b o hb ho => (hs.2 b hb).trans ho) hn'
end
/-- what the written part says of the class -/
structure ExC (K : PySem.W.Frag) (C : Addr) : Prop where
  cls : ∃ nm q N bs bm sn sub ab col dd k0 k1 k2 k3 k5, K.lookup C = some (excClassObj nm q C N bs bm true sn sub ab col dd k0 k1 k2 k3 k5 "Exception.__new__") ∧ ExM bm
  sa : PySem.W.findIn K (.ref C) "__setattr__" = some (some (.builtin "object.__setattr__"))
  exC : PySem.W.subIn K (.ref C) (.type "BaseException") = some true
  tyC : PySem.W.typeIn K (.ref C) = some (.type "type")
  kC : PySem.W.keepIn K (.ref C) = true
section
variable {X : Cx} {pins : List (Addr × Obj)} {σ : L2.St} {H : Hp} {s : Shared} {a C dx : Addr} {f : Str} {y : V} {u : Value} {fs : List (Str × V)} {Q : Unit → Shared → Prop} {E : Value → Shared → Prop} {A : Around}
theorem Inv.same {H' : Hp} (I : Inv X pins σ H s) (hd : ∀ b, H b = none → H' b = none) (ht : ∀ b xs, H b = some (.tup xs) → H' b = some (.tup xs)) (hf : ∀ b o v, H b = some (.frz o v) → H' b = some (.frz o v)) (hb : ∀ b ps, H b = some (.tbl ps) → H' b = some (.tbl ps))
    (ok : HOk X.prog X.w H' s.heap) : Inv X pins σ H' s := by
  obtain ⟨hp, g, d, t, os⟩ := s
  exact I.un (t' := t) { keep := fun b o q _ _ _ => q, slot := fun b o q _ _ _ => ⟨o.slots, q⟩, free := fun b o q n _ => hd b n, there := fun b o q _ => ⟨o, q⟩, tups := fun b xs q => ht b xs q, frzs := fun b o v q => hf b o v q, tbls := fun b ps q => ⟨#[], by rw [hb b ps q]; simp⟩ } ok
/-- self.f = y, the first one -/
theorem xst_new (T : ExC X.K C) (I : Inv X pins σ H s) (e : H a = some (exo a C none)) (hno : PySem.W.findIn X.K (.ref C) f = some none) (ry : RelV y u)
    (h : ∀ dx s', H dx = none → dx ≠ a → Inv X pins σ (upd (upd H dx (exd dx [(f, y)])) a (exo a C (some dx))) s' → Q () s') : wpAny (model X.prog X.w) A (setAttr (.ref a) f u) Q E s := by
  obtain ⟨nm, q, N, bs, bm, sn, sub, ab, col, dd, k0, k1, k2, k3, k5, hC, hbm⟩ := T.cls
  have hcl : PySem.W.clsIn X.K C = some { name := nm, bases := bs, mro := .ref C :: bm, ns := N, qualname := q, hasDict := true, slotNames := sn, subclasses := sub, abstract := ab, collection := col, hasDel := false } := by unfold PySem.W.clsIn; rw [hC] <;> rfl
  obtain ⟨t1, ho⟩ := exo_at I.hok e
  obtain ⟨hp, g, d, t, os⟩ := s
  refine PySem.W.set_plain I.kIn (ox := { cls := .ref C, dict := none, data := .fields #[.ref t1, .none, .none, .none, .bool false, .none] }) (od := none) ⟨ho, rfl, rfl, trivial⟩ T.sa ?_
  refine sa_new I.kIn ho hcl (ExM.cons C hbm) rfl hno (fun h' tk' dx k dn dne hx hn => ?_)
  have hnd : H dx = none := I.hok.fresh dn
  have nd : ∀ {b : Addr} {o : Obj}, hp.get? b = some o → b ≠ dx := fun {b o} q => Nat.ne_of_lt (Nat.lt_of_lt_of_le (Heap.lt_size q) dn)
  have na : ∀ {b : Addr}, H b = none → b ≠ a := fun {b} n z => by
    rw [z, e] at n
    cases n
  have U : Un X.fs [] H (upd (upd H dx (exd dx [(f, y)])) a (exo a C (some dx))) hp h' := {
    keep := fun b o q n _ _ => k b o (na n) q
    slot := fun b o q n _ _ => ⟨o.slots, k b o (na n) q⟩
    free := fun b o q n _ => by rw [upd_ne (na n), upd_ne (nd q)]; exact n
    there := fun b o q _ => by
      by_cases hb : b = a
      · exact ⟨_, by rw [hb]; exact hx⟩
      · exact ⟨o, k b o hb q⟩
    tups := fun b xs q => by rw [upd_ne (at_ne e q exo_tup), upd_ne (ne_of_none q hnd)]; exact q
    frzs := fun b o v q => by rw [upd_ne (at_ne e q exo_frz), upd_ne (ne_of_none q hnd)]; exact q
    tbls := fun b ps q => ⟨#[], by rw [upd_ne (at_ne e q exo_tbl), upd_ne (ne_of_none q hnd), q]; simp⟩ }
  refine h dx _ hnd dne (I.un (t' := tk') U fun b o q => ?_)
  by_cases hb : b = a
  · subst hb
    rw [upd_same] at q
    cases q
    exact exo_ok hx
  · rw [upd_ne hb] at q
    by_cases hd : b = dx
    · subst hd
      rw [upd_same] at q
      cases q
      exact exd_ok hn (relO_put (fs := []) ry fun g => True.intro)
    · rw [upd_ne hd] at q
      exact (I.hok b o q).stay (fun c v hc z => k c v (by
          rcases hc with hc | hc
          · rw [hc]
            exact hb
          · exact at_ne e hc exo_own) z)
        (fun c hc => by rw [upd_ne (at_ne e hc exo_own), upd_ne (ne_of_none hc hnd)]; exact hc) (fun c xs hc => by rw [upd_ne (at_ne e hc exo_tup), upd_ne (ne_of_none hc hnd)]; exact hc)
/-- self.f = y, a further one -/
theorem xst_old (T : ExC X.K C) (I : Inv X pins σ H s) (e : H a = some (exo a C (some dx))) (ed : H dx = some (exd dx fs)) (hl : fs.length ≤ 900) (hno : PySem.W.findIn X.K (.ref C) f = some none) (ry : RelV y u)
    (h : ∀ s', Inv X pins σ (upd H dx (exd dx ((f, y) :: fs))) s' → Q () s') : wpAny (model X.prog X.w) A (setAttr (.ref a) f u) Q E s := by
  obtain ⟨nm, q, N, bs, bm, sn, sub, ab, col, dd, k0, k1, k2, k3, k5, hC, hbm⟩ := T.cls
  have hcl : PySem.W.clsIn X.K C = some { name := nm, bases := bs, mro := .ref C :: bm, ns := N, qualname := q, hasDict := true, slotNames := sn, subclasses := sub, abstract := ab, collection := col, hasDel := false } := by unfold PySem.W.clsIn; rw [hC] <;> rfl
  obtain ⟨t1, ho⟩ := exo_at I.hok e
  obtain ⟨mA, hns, rel⟩ := exd_at I.hok ed
  have hw := within_of rel
  obtain ⟨hp, g, d, t, os⟩ := s
  obtain ⟨oD, _, _, hoD, _, _⟩ := hns.count hw
  refine PySem.W.set_plain I.kIn (ox := { cls := .ref C, dict := some dx, data := .fields #[.ref t1, .none, .none, .none, .bool false, .none] }) (od := some oD) ⟨ho, rfl, rfl, hoD⟩ T.sa ?_
  refine sa_old I.kIn ho hns hw (by rw [List.length_map]; omega) hcl (ExM.cons C hbm) rfl hno (fun h' tk' k hn => ?_)
  have hd : ∃ o, h'.get? dx = some o := by
    obtain ⟨o, _, _, e', _⟩ := hn
    exact ⟨o, e'⟩
  exact h _ (I.write (t' := tk') (x := dx) (e := dx) (o := exd dx ((f, y) :: fs)) (by rw [ed]; exact True.intro) (.inl rfl) k hd (exd_ok hn (relO_put ry rel)))
end
/-- self.f = e -/
def tXst (K : PySem.W.Frag) (f : Str) (to te : TE) : TS := fun D σ H => te σ H fun y H1 => to σ H1 fun x H2 => ∃ a C : Addr, x = .ref a ∧ ExC K C ∧ PySem.W.findIn K (.ref C) f = some none ∧
  ((H2 a = some (exo a C none) ∧ ∀ dx, H2 dx = none → dx ≠ a → D.nx σ (upd (upd H2 dx (exd dx [(f, y)])) a (exo a C (some dx)))) ∨
    ∃ (dx : Addr) (fs : List (Str × V)), H2 a = some (exo a C (some dx)) ∧ H2 dx = some (exd dx fs) ∧ fs.length ≤ 900 ∧ D.nx σ (upd H2 dx (exd dx ((f, y) :: fs))))
theorem ps_xst {X : Cx} {o e : Expr} {to te : TE} {f : Str} {p' pos : Pos} (ho : PE X o to) (he : PE X e te) (hs : swapsWith e (some (.Attribute o f p')) pos.line X.env = pure false) : PS X (.Assign [.Attribute o f p'] e pos) (tXst X.K f to te) := by
  refine ⟨fun pins s σ H D I h => ?_⟩
  refine plainObj_wpAny_Assign_Attribute (thn (he.run pins s σ H _ I h) fun v s1 ⟨y, H1, I1, r1, q1⟩ => thn (ho.run pins s1 σ H1 _ I1 q1) fun u s2 ⟨x, H2, I2, r2, a, C, ex, T, hno, q⟩ => ?_) hs
  subst ex
  obtain rfl : u = Value.ref a := r2
  rcases q with ⟨ea, q⟩ | ⟨dx, fs, ea, ed, hl, q⟩
  · exact xst_new T I2 ea hno r1 fun dx s' n ne J => ⟨σ, _, J, q dx n ne⟩
  · exact xst_old T I2 ea ed hl hno r1 fun s' J => ⟨σ, _, J, q⟩
end VS
set_option Elab.async false
set_option linter.all false
set_option maxRecDepth 100000
set_option maxHeartbeats 4000000
/-! VTg: such an exception made. -/
namespace VS
open PySem PySem.Spec PyProof.Rows L2
/-- its __init__: the fields in the parameters' order -/
def spI (fl : List Str) (C : Addr) : Sp := fun vs H Q E => ∃ a ws, vs = .ref a :: ws ∧ ws.length = fl.length ∧ H a = some (exo a C none) ∧ ∀ d, H d = none → d ≠ a → Q .non (upd (upd H d (exd d (fl.zip ws).reverse)) a (exo a C (some d)))
def tIni (K : PySem.W.Frag) : List Str → Nat → TS
  | [], _ => fun D σ H => D.nx σ H
  | f :: fl, i => tSeq (tXst K f (tVar 0) (tVar i)) (tIni K fl (i + 1))
/-- the text of such an __init__ -/
def okIni1 (N : List Str) (sc : Scope) (g : Str) (i : Nat) : Stmt → Bool
  | .Assign [.Attribute (.Name s _) f _] (.Name x _) _ => decide (N[0]? = some s) && (decide (N[i]? = some x) && (isVis sc s && (isVis sc x && (decide (f = g) && (noDbg s && noDbg x)))))
  | _ => false
def okIni (N : List Str) (sc : Scope) : List Stmt → List Str → Nat → Bool
  | [], [], _ => true
  | st :: r, g :: fl, i => okIni1 N sc g i st && okIni N sc r fl (i + 1)
  | _, _, _ => false
theorem vis_of {X : Cx} {sc : Scope} (hs : X.env.scope = sc) {x : Str} (h2 : isVis sc x = true) : Vis X.env.scope x := by
  unfold isVis at h2
  rw [hs]
  unfold Vis
  split at h2
  · rename_i q; exact .inl q
  · rename_i q; exact .inr (.inl q)
  · rename_i q; exact .inr (.inr q)
  · cases h2
theorem ini_snd1 {X : Cx} {sc : Scope} (hs : X.env.scope = sc) {st : Stmt} {f : Str} {i : Nat} (h : okIni1 X.N sc f i st = true) : PS X st (tXst X.K f (tVar 0) (tVar i)) := by
  unfold okIni1 at h
  split at h
  · rename_i s ps f' pf x px pp
    simp only [Bool.and_eq_true, decide_eq_true_eq] at h
    obtain ⟨h1, h2, h3, h4, h5, h6, h7⟩ := h
    subst h5
    unfold noDbg at h6 h7
    simp only [Bool.and_eq_true, Bool.not_eq_true'] at h6 h7
    exact ps_xst (pe_var h1 (vis_of hs h3) h6.1 h6.2.1) (pe_var h2 (vis_of hs h4) h7.1 h7.2.1) rfl
  · cases h
theorem ini_snd {X : Cx} {sc : Scope} (hs : X.env.scope = sc) : ∀ (fl : List Str) (b : List Stmt) (i : Nat), okIni X.N sc b fl i = true → PSs X b (tIni X.K fl i)
  | [], [], i, h => pss_nil
  | [], _ :: _, i, h => by unfold okIni at h; cases h
  | _ :: _, [], i, h => by unfold okIni at h; cases h
  | f :: fl, st :: r, i, h => by
    unfold okIni at h
    simp only [Bool.and_eq_true] at h
    exact pss_cons (ini_snd1 hs h.1) (ini_snd hs fl r (i + 1) h.2)
theorem ini_old {K : PySem.W.Frag} {C a dx : Addr} (T : ExC K C) {D : Ends} {σ : L2.St} : ∀ (fl : List Str) (ws : List V) (i : Nat) (H : Hp) (fs : List (Str × V)), ws.length = fl.length → (∀ f ∈ fl, PySem.W.findIn K (.ref C) f = some none) → fs.length + fl.length ≤ 900 →
    σ[0]? = some (some (.ref a)) → (∀ j v, ws[j]? = some v → σ[i + j]? = some (some v)) → a ≠ dx → H a = some (exo a C (some dx)) → H dx = some (exd dx fs) → D.nx σ (upd H dx (exd dx ((fl.zip ws).reverse ++ fs))) → tIni K fl i D σ H := by
  intro fl
  induction fl with
  | nil =>
    intro ws i H fs hl hn hz h0 hw ne ea ed q
    have e : upd H dx (exd dx ((([] : List Str).zip ws).reverse ++ fs)) = H := by
      funext b
      by_cases hb : b = dx
      · rw [hb, upd_same, ed]; rfl
      · rw [upd_ne hb]
    rw [e] at q
    exact q
  | cons f fl ih =>
    intro ws i H fs hl hn hz h0 hw ne ea ed q
    cases ws with
    | nil => cases hl
    | cons y ws =>
      refine ⟨y, hw 0 y rfl, .ref a, h0, a, C, rfl, T, hn f List.mem_cons_self, .inr ⟨dx, fs, ea, ed, by simp only [List.length_cons] at hz; omega, ?_⟩⟩
      refine ih ws (i + 1) _ ((f, y) :: fs) (by simpa using hl) (fun g hg => hn g (List.mem_cons_of_mem _ hg)) (by simp only [List.length_cons] at hz ⊢; omega) h0 (fun j v hj => ?_) ne (by rw [upd_ne ne]; exact ea) upd_same ?_
      · have := hw (j + 1) v (by simpa using hj)
        rwa [show i + (j + 1) = i + 1 + j by omega] at this
      · have e : upd (upd H dx (exd dx ((f, y) :: fs))) dx (exd dx ((fl.zip ws).reverse ++ (f, y) :: fs)) = upd H dx (exd dx (((f :: fl).zip (y :: ws)).reverse ++ fs)) := by
          funext b
          by_cases hb : b = dx
          · rw [hb, upd_same, upd_same]; simp
          · rw [upd_ne hb, upd_ne hb, upd_ne hb]
        rw [e]; exact q
theorem ini_new {K : PySem.W.Frag} {C a : Addr} (T : ExC K C) {D : Ends} {σ : L2.St} {fl : List Str} {ws : List V} {i : Nat} {H : Hp} (hne : fl ≠ []) (hl : ws.length = fl.length) (hn : ∀ f ∈ fl, PySem.W.findIn K (.ref C) f = some none) (hz : fl.length ≤ 900)
    (h0 : σ[0]? = some (some (.ref a))) (hw : ∀ j v, ws[j]? = some v → σ[i + j]? = some (some v)) (ea : H a = some (exo a C none)) (q : ∀ d, H d = none → d ≠ a → D.nx σ (upd (upd H d (exd d (fl.zip ws).reverse)) a (exo a C (some d)))) : tIni K fl i D σ H := by
  cases fl with
  | nil => exact absurd rfl hne
  | cons f fl =>
    cases ws with
    | nil => cases hl
    | cons y ws =>
      refine ⟨y, hw 0 y rfl, .ref a, h0, a, C, rfl, T, hn f List.mem_cons_self, .inl ⟨ea, fun d hd nd => ?_⟩⟩
      refine ini_old T fl ws (i + 1) _ [(f, y)] (by simpa using hl) (fun g hg => hn g (List.mem_cons_of_mem _ hg)) (by simp only [List.length_cons, List.length_nil] at hz ⊢; omega) h0 (fun j v hj => ?_) (Ne.symm nd) upd_same (by rw [upd_ne nd, upd_same]) ?_
      · have := hw (j + 1) v (by simpa using hj)
        rwa [show i + (j + 1) = i + 1 + j by omega] at this
      · have e : upd (upd (upd H d (exd d [(f, y)])) a (exo a C (some d))) d (exd d ((fl.zip ws).reverse ++ [(f, y)])) = upd (upd H d (exd d ((f :: fl).zip (y :: ws)).reverse)) a (exo a C (some d)) := by
          funext b
          by_cases hb : b = d
          · rw [hb, upd_same, upd_ne nd, upd_same]; simp
          · by_cases ha : b = a
            · rw [upd_ne hb, ha, upd_same, upd_same]
            · rw [upd_ne hb, upd_ne ha, upd_ne hb, upd_ne ha, upd_ne hb]
        rw [e]; exact q d hd nd
/-! ### the call -/
theorem lookup_app {l m : List (Str × V)} {f : Str} : (l ++ m).lookup f = (l.lookup f).or (m.lookup f) := by
  induction l with
  | nil => rfl
  | cons p l ih =>
    obtain ⟨g, v⟩ := p
    rw [List.cons_append, lookup_put, lookup_put, ih]
    split <;> rfl
theorem lookup_none {l : List (Str × V)} {f : Str} (h : f ∉ l.map (·.1)) : l.lookup f = none := by
  induction l with
  | nil => rfl
  | cons p l ih =>
    obtain ⟨g, v⟩ := p
    rw [lookup_put]
    simp only [List.map_cons, List.mem_cons, not_or] at h
    rw [if_neg h.1, ih h.2]
theorem lookup_rev {f : Str} : ∀ {l : List (Str × V)}, (l.map (·.1)).Nodup → l.reverse.lookup f = l.lookup f
  | [], _ => rfl
  | (g, v) :: l, h => by
    simp only [List.map_cons, List.nodup_cons] at h
    rw [List.reverse_cons, lookup_app, lookup_rev h.2, lookup_put, lookup_put]
    by_cases e : f = g
    · subst e
      rw [lookup_none h.1, if_pos rfl]; simp
    · rw [if_neg e, if_neg e]; simp
/-- an exception class with such an __init__ -/
structure XMk (K : PySem.W.Frag) (P : Program) (w : World) (mg : Str → Option Value) (base : Heap) (k : Nat) (C : Addr) (fl : List Str) : Prop where
  T : ExC K C
  nd : fl.Nodup
  few : fl.length ≤ 900
  ini : ∃ fI fd ps, PySem.W.findIn K (.ref C) "__init__" = some (some (.ref fI)) ∧ PySem.W.typeIn K (.ref fI) = some (.type "function") ∧ FnOk P w K mg base (L2.CX P w) k fI fd ps (spI fl C) ∧ Binds K fd ps []
def tMkX (C : Addr) (fl : List Str) (ta : TA) : L2.St → Hp → XK → Prop := fun σ H Q => ta σ H fun vs H1 => vs.length = fl.length ∧ ∀ d, H1 d = none → Q (.ref C) (some d) (upd H1 d (.xd (fl.zip vs)))
theorem pmk_x {X : Cx} {W : WX} {x : Str} {C : Addr} {k : Nat} {fl : List Str} {e : Expr} {es : List Expr} {ta : TA} {p pos : Pos} (M : XMk X.K X.prog X.w X.mg X.base k C fl) (hr : Room (k + 1) X.A) (tk : Takes X W) (hg : Gl X x) (hm : X.mg x = some (.ref C)) (ha : PA X (e :: es) ta)
    (hdb : (x == ("__debug__" : Str)) = false) (he : starEach (e :: es) X.env = (false, eval e X.env) :: starEach es X.env) (hpl : (backTo pos (starEach es X.env)).any (·.1) = false) :
    PMk X (.Call (.Name x p) (e :: es) [] pos) (tMkX C fl ta) := by
  intro pins s σ H Q I h
  obtain ⟨T, nd, few, fI, fd, ps, iC, tI, F1, hb⟩ := M
  obtain ⟨nm, q, N, bs, bm, sn, sub, ab, col, dd, k0, k1, k2, k3, k5, hC, hbm⟩ := T.cls
  refine wpAny_Call_Name_kw (ld_glob I hg hm ?_ hdb)
  refine PySem.W.callWith_K (h₀ := X.base) I.ok.mod.kin T.kC (thn (ha.run pos pins s σ H _ I h) fun us s1 ⟨vs, H1, I1, r1, hz, q1⟩ => ⟨I1.kIn, ?_⟩) he hpl
  show wpAny _ _ (call (.ref C) us) _ _ _
  obtain ⟨hp, g, dr, tk0, os⟩ := s1
  have hsz : hp.objs.size ≤ hp.objs.size + 1 := Nat.le_succ _
  have hn : H1 (hp.objs.size + 1) = none := I1.hok.fresh hsz
  have kk : ∀ b o, hp.get? b = some o → ((hp.push (PySem.W.kdv_tup us)).push (PySem.HandSPX.excO C hp.objs.size)).get? b = some o := fun b o e => Heap.get?_push_of_some _ (Heap.get?_push_of_some _ e)
  have hget : ((hp.push (PySem.W.kdv_tup us)).push (PySem.HandSPX.excO C hp.objs.size)).get? (hp.objs.size + 1) = some (PySem.HandSPX.excO C hp.objs.size) := by heap_get
  have I2 : Inv X pins σ (upd H1 (hp.objs.size + 1) (exo (hp.objs.size + 1) C none)) ⟨(hp.push (PySem.W.kdv_tup us)).push (PySem.HandSPX.excO C hp.objs.size), g, dr, tk0, os⟩ :=
    I1.laid (t' := tk0) (a := hp.objs.size + 1) (o := exo (hp.objs.size + 1) C none) (h' := (hp.push (PySem.W.kdv_tup us)).push (PySem.HandSPX.excO C hp.objs.size)) kk hsz (exo_ok hget)
  have r2 : Vals (V.ref (hp.objs.size + 1) :: vs) (Value.ref (hp.objs.size + 1) :: us) := .cons rfl r1
  have hq : spI fl C (.ref (hp.objs.size + 1) :: vs) (upd H1 (hp.objs.size + 1) (exo (hp.objs.size + 1) C none)) (fun v H2 => v = .non ∧ ∃ d, H1 d = none ∧ d ≠ hp.objs.size + 1 ∧ H2 = upd (upd (upd H1 (hp.objs.size + 1) (exo (hp.objs.size + 1) C none)) d (exd d (fl.zip vs).reverse)) (hp.objs.size + 1) (exo (hp.objs.size + 1) C (some d))) (fun _ _ _ => False) :=
    ⟨_, vs, rfl, hz, upd_same, fun d hd hne => ⟨rfl, d, by rw [upd_ne hne] at hd; exact hd, hne, rfl⟩⟩
  have hl : (Value.ref (hp.objs.size + 1) :: us).length = ps.length := by
    have e := r2.length
    rw [F1.len _ _ _ _ hq] at e
    exact e.symm
  have hus : us.length ≤ sizeLine := by
    rw [← Paired.length r1, sizeLine_eq]
    omega
  refine wpAny_call (PySem.HandSPX.call_own F.excBase_Exception (fun Y => hbm.has Y) (I1.kIn _ _ hC) (PySem.W.looks_findIn I1.kIn iC) (fun self => PySem.W.bind_fn I1.kIn self tI) hus
    (codeAny_mono (F1.run _ X.stack _ _ ⟨Value.ref (hp.objs.size + 1) :: us, []⟩ (Value.ref (hp.objs.size + 1) :: us) _ _ (fun _ _ _ => False) (hr.make C us []) (I2.env0.make C us []) (by simpa using hb _ (Value.ref (hp.objs.size + 1) :: us) I2.kIn (by simpa using hl)) r2 hq) fun r s' hq' => ?_))
  cases r with
  | error er => exact passes_call (E := fun _ _ _ => False) tk (fun _ _ _ _ z => z.elim) pins σ _ _ er s' I2 hq'
  | ok fl' =>
    cases fl' with
    | ret u =>
      obtain ⟨v, H2, os2, bare2, un2, hok2, rv, ev, d, hd1, hda, eH⟩ := hq'
      subst ev
      obtain ⟨h2, g2, d2, t2, os'⟩ := s'
      refine ⟨rv, ?_⟩
      have ea : H2 (hp.objs.size + 1) = some (exo (hp.objs.size + 1) C (some d)) := by rw [eH, upd_same]
      have ed : H2 d = some (exd d (fl.zip vs).reverse) := by rw [eH, upd_ne hda, upd_same]
      obtain ⟨t0, G, J, kG, ge, hoe, na⟩ := mk_end0 (d2 := d2) (t2 := t2) I1 hsz kk un2 hok2 os2 bare2 ea ed hd1
      have e1 : upd (del H2 (hp.objs.size + 1)) d (.xd (fl.zip vs).reverse) = upd H1 d (.xd (fl.zip vs).reverse) := by
        funext b
        by_cases hb : b = d
        · rw [hb, upd_same, upd_same]
        · rw [upd_ne hb, upd_ne hb]
          by_cases ha : b = hp.objs.size + 1
          · rw [ha, del_same, hn]
          · rw [del_ne ha, eH, upd_ne ha, upd_ne hb, upd_ne ha]
      rw [e1] at J
      have J' : Inv X pins σ (upd H1 d (.xd (fl.zip vs))) ⟨G, g2, d2, t2, os'⟩ := by
        have ndz : ((fl.zip vs).map (·.1)).Nodup := by rw [List.map_fst_zip (by omega)]; exact nd
        have ne : ∀ {b : Addr} {o u : HO}, upd H1 d u b = some o → b ≠ d → ∀ u', upd H1 d u' b = some o := fun {b o u} z hb u' => by rw [upd_ne hb] at z ⊢; exact z
        refine Inv.same J (fun b z => ?_) (fun b xs z => ?_) (fun b o v z => ?_) (fun b ps z => ?_) fun b o z => ?_
        · by_cases hb : b = d
          · rw [hb, upd_same] at z; cases z
          · rw [upd_ne hb] at z ⊢; exact z
        · by_cases hb : b = d
          · rw [hb, upd_same] at z; cases z
          · exact ne z hb _
        · by_cases hb : b = d
          · rw [hb, upd_same] at z; cases z
          · exact ne z hb _
        · by_cases hb : b = d
          · rw [hb, upd_same] at z; cases z
          · exact ne z hb _
        · by_cases hb : b = d
          · subst hb
            rw [upd_same] at z
            cases z
            obtain ⟨mA, n, r⟩ := J.hok b _ upd_same
            exact ⟨mA, n, fun f => by rw [← lookup_rev ndz]; exact r f⟩
          · refine (J.hok b o (ne z hb _)).stay (fun _ _ _ y => y) (fun c hc => ?_) fun c xs hc => ?_
            · by_cases hcd : c = d
              · rw [hcd, upd_same] at hc; cases hc
              · exact ne hc hcd _
            · by_cases hcd : c = d
              · rw [hcd, upd_same] at hc; cases hc
              · exact ne hc hcd _
      exact ⟨_, _, _, ⟨G, g2, d2, t2, os'⟩, _, .ref C, some d, rfl, J', kG, ge, hoe, ⟨rfl, rfl⟩, rfl, rfl, by rw [upd_ne (Ne.symm hda)]; exact hn, rfl, bare2, raises_own T.exC T.tyC, q1 d hd1⟩
    | next => exact False.elim hq'
    | brk => exact False.elim hq'
    | cont => exact False.elim hq'
end VS
set_option Elab.async false
set_option linter.all false
set_option maxRecDepth 100000
set_option maxHeartbeats 2000000
/-! VSh: the world, the readings. -/
namespace VS
open PySem PySem.Spec PyProof.Rows L2

structure Wd where
  R : Rt
  T : Tab
  nm : Nms
  fa : Nat → Addr
  call : Nat → List D → CR
  k : Nat

/-- the promise of def f: what the code says -/
def spC (G : Wd) (f np : Nat) (mu : Bool) : Sp := fun vs H Q E => ∃ (ds : List D) (ow : Own) (Rs : Av), argsOk mu ds = true ∧ vs.length = np ∧ ES G.R H Rs (ds.map some) (vs.map some) ow ∧ match G.call f ds with
  | .ok d fin => ∀ v H' ow' os env', Po G.R Rs mu ow H env' (vs.map some) ow' os H' → (∀ d', fin = some d' → env'[0]? = some (some d')) → RP G.R H' (Avd ow' (Tm Rs os)) d v os → Q v H'
  | .ex c xs => ∀ H' dd env' ow', Po G.R Rs mu ow H env' (vs.map some) ow' [] H' → XB G.R H' (Avd ow' Rs) c xs dd → E (.ref (G.R.ca c)) (some dd) H'
  | .no => False

/-- the parameters' values by their sources; ud: the defaults' -/
def pickX {α : Type} (z : α) : List Srs → List α → List α → List α → List α
  | [], _, _, _ => []
  | .pos j :: r, ud, us, ws => us.getD j z :: pickX z r ud.tail us ws
  | .kw j :: r, ud, us, ws => ws.getD j z :: pickX z r ud.tail us ws
  | .dfl _ :: r, ud, us, ws => ud.headD z :: pickX z r ud.tail us ws
structure ShOk (R : Rt) (fd : FuncData) (ps : List Str) (s : Shp) (vd : List V) (ud : List Value) : Prop where
  rel : Vals vd ud
  dfl : ∀ (i : Nat) d, s.src[i]? = some (.dfl d) → ∃ v, vd[i]? = some v ∧ ∀ H A, RP R H A d v []
  bind : ∀ (s₀ : Shared) (us ws : List Value), R.K.In s₀.heap → us.length = s.n → ws.length = s.ks.length → BindsTo s₀ fd ⟨us, s.ks.zip ws⟩ (ps.zip (pickX .none s.src ud us ws))
  len : s.src.length = ps.length

structure FnSnd (G : Wd) (P : Program) (w : World) (K : PySem.W.Frag) (mg : Str → Option Value) (base : Heap) (f : Nat) (fn : FnI) : Prop where
  ok : ∃ fd ps, ps.length = fn.np ∧ FnOk P w K mg base (L2.CX P w) G.k (G.fa f) fd ps (spC G f fn.np fn.mu) ∧ ∀ s ∈ fn.shapes, ∃ vd ud, ShOk G.R fd ps s vd ud

structure ClOk (G : Wd) (c : Nat) (cl : ClsI) : Prop where
  fl : G.R.fl c = cl.fl
  nc : cl.ex = false ↔ c < G.R.nc
  nd : cl.fl.Nodup
  few : cl.fl.length ≤ 900
  att : cl.ex = false → ∀ f ∈ cl.fl, NoAttr G.R.K (G.R.ca c) f
  make : cl.ex = false → ∀ g, cl.init = some g → Mk G.R.K (G.R.ca c) (G.fa g)
  prop : cl.ex = false → ∀ f g, findF f cl.props = some g → ∃ p, PropOf G.R.K (G.R.ca c) f p (G.fa g)
  item : cl.ex = false → ∀ g, cl.item = some g → PySem.W.findIn G.R.K (.ref (G.R.ca c)) "__getitem__" = some (some (.ref (G.fa g))) ∧ PySem.W.fnIn G.R.K (G.fa g) = true ∧ PySem.W.isFn G.R.K (.ref (G.fa g)) = true

/-- the names -/
structure NmOk (R : Rt) (nm : Nms) (fa : Nat → Addr) (mg : Str → Option Value) : Prop where
  gf : ∀ f x, nm.gf[f]? = some (some x) → mg x = some (.ref (fa f)) ∧ PySem.W.keepIn R.K (.ref (fa f)) = true
  gc : ∀ c x, nm.gc[c]? = some (some x) → mg x = some (.ref (R.ca c)) ∧ PySem.W.keepIn R.K (.ref (R.ca c)) = true
  bn : ∀ x ∈ nm.bn, mg x = none
  nc : nm.nc = R.nc
/-- .. and what they stand for -/
structure WdOk (G : Wd) (P : Program) (w : World) (mg : Str → Option Value) (base : Heap) : Prop where
  cls : InCs G.R
  fn : ∀ f fn, G.T.fns[f]? = some fn → FnSnd G P w G.R.K mg base f fn
  cl : ∀ c cl, G.T.cls[c]? = some cl → ClOk G c cl
  sub : ∀ c k, excC G.T c = true → excC G.T k = true → PySem.W.exmOne G.R.K (.ref (G.R.ca c)) (.ref (G.R.ca k)) = some (subC G.T c k)
  xm : ∀ c cl, G.T.cls[c]? = some cl → cl.ex = true → cl.fl ≠ [] → XMk G.R.K P w mg base G.k (G.R.ca c) cl.fl
  xf : ∀ c cl, G.T.cls[c]? = some cl → cl.ex = true → XfC G.R.K (G.R.ca c) ∧ ∀ f ∈ cl.fl, PySem.W.findIn G.R.K (.ref (G.R.ca c)) f = some none

/-- the code runs in X as the checker thought -/
structure Good (c : Ck) (G : Wd) (W : WX) (X : Cx) : Prop where
  sc : X.env.scope = c.sc
  N : X.N = c.N
  nd : X.N.Nodup
  fn : X.fn = c.fn
  K : X.K = G.R.K
  nm : c.nm = G.nm
  nmk : NmOk G.R G.nm G.fa X.mg
  un : X.A.units + 64 < cLine
  calm : c.hot = false → X.calm = true ∧ Room (G.k + 2) X.A ∧ Takes X W ∧ G.R.exc = none ∧ WdOk G X.prog X.w X.mg X.base
  hot : c.hot = true → ∃ X₀ a oe pn e dd cl, X = Cx.suite X₀ a ((a, oe) :: pn) ∧ Zc (.ref (G.R.ca e)) (some dd) oe ∧ (∃ vs, oe.data = .fields vs) ∧ G.R.exc = some (e, a, dd) ∧ G.T.cls[e]? = some cl ∧
    G.R.fl e = cl.fl ∧ cl.fl.Nodup ∧ XfC G.R.K (G.R.ca e) ∧ ∀ f ∈ cl.fl, PySem.W.findIn G.R.K (.ref (G.R.ca e)) f = some none

section
variable {R : Rt} {Rs : Av} {mu : Bool} {ow ow1 : Own} {H H1 : Hp} {σ : L2.St} {env env1 : VE} {os : List Addr}
theorem Po.apart (s : ES R H Rs env σ ow) (p : Po R Rs mu ow H env1 σ ow1 os H1) : ∀ a ∈ os, ¬ Avd ow1 Rs a := fun a ha q => by
  rcases q with q | q
  · exact p.es.rs a (.inr ha) q
  · rcases p.new a (.inr ha) with z | z
    · exact s.rs a q z
    · exact s.rt a q z
/-- the values' owners give up -/
theorem Po.fzs (s : ES R H Rs env σ ow) (p : Po R Rs mu ow H env1 σ ow1 os H1) {ds : List D} {vs : List V} (r : RPs R H1 (Avd ow1 (Tm Rs os)) ds vs os) : RPs R H1 (Avd ow1 Rs) (D.fzs ds) vs [] :=
  r.freeze (fun a q => .inl (q.elim .inl fun q => .inr (.inl q))) fun a ha => p.apart s a ha
theorem Po.fz1 (s : ES R H Rs env σ ow) (p : Po R Rs mu ow H env1 σ ow1 os H1) {d : D} {v : V} (r : RP R H1 (Avd ow1 (Tm Rs os)) d v os) : RP R H1 (Avd ow1 Rs) d.fz v [] :=
  r.freeze (fun a q => .inl (q.elim .inl fun q => .inr (.inl q))) fun a ha => p.apart s a ha
end

/-! ### readings -/
/-- v stands at the place -/
def PAt (H : Hp) (σ : L2.St) (env : VE) : E → V → Prop
  | .var i, v => σ[i]? = some (some v)
  | .sub o k, v => ∃ u n, PAt H σ env o u ∧ smp k env = some n ∧ ∀ xs p vs, peek o env = some (.lst true xs) → u = .ref p → H p = some (.lst vs) → atI vs n = some v
  | _, _ => True
section
variable (G : Wd) (W : WX)
abbrev ev (m : Bool) (e : E) (env : VE) : Rr (D × VE) := evX G.T G.call m e env
def rdE (e : E) : TE := fun σ H Q => ∃ env ow Rs, ES G.R H Rs env σ ow ∧ KR G.R W Rs (muE G.T e) ow H σ (evX G.T G.call false e env) (EK G.R Rs (muE G.T e) ow H σ Q)
def rdT (e : E) : TT := fun σ H Q => ∃ env ow Rs, ES G.R H Rs env σ ow ∧ KR G.R W Rs (muE G.T e) ow H σ (evT G.T G.call e env) (TK G.R Rs (muE G.T e) ow H σ Q)
/-- an operand that is only read -/
def rdV (e : E) : TE := fun σ H Q => ∃ env ow Rs, ES G.R H Rs env σ ow ∧ KR G.R W Rs (muE G.T e) ow H σ (viaA e (fun v => evX G.T G.call false e v) env) (OK G.R Rs (muE G.T e) ow H σ (isPl e) Q)
/-- a place -/
def rdP (e : E) : TE := fun σ H Q => ∃ env ow Rs d, ES G.R H Rs env σ ow ∧ peek e env = some d ∧ ∀ v os, RP G.R H (Avd ow Rs) d v os → (∀ r, rootE e = some r → ∀ a ∈ os, a ∈ ow r) → PAt H σ env e v → Q v H
/-- a simple number -/
def rdS (e : E) : TE := fun σ H Q => ∃ env ow Rs k, ES G.R H Rs env σ ow ∧ smp e env = some k ∧ Q (.int k) H
def rdEs (es : Es) : TA := fun σ H Q => ∃ env ow Rs, ES G.R H Rs env σ ow ∧ KR G.R W Rs (muEs G.T es) ow H σ (evEs G.T G.call es env) (AK G.R Rs (muEs G.T es) ow H σ Q)
def rdAs (es : Es) : TA := fun σ H Q => ∃ env ow Rs, ES G.R H Rs env σ ow ∧ KR G.R W Rs (muEs G.T es) ow H σ (evAs G.T G.call es env) (OKs G.R Rs (muEs G.T es) ow H σ Q)
def rdTs (es : Es) : TT := fun σ H Q => ∃ env ow Rs, ES G.R H Rs env σ ow ∧ KR G.R W Rs (muEs G.T es) ow H σ (evTs G.T G.call es env) (TK G.R Rs (muEs G.T es) ow H σ Q)
end
section
variable {X : Cx} {e : Expr}
theorem PEimp {t t' : TE} (h : PE X e t) (i : ∀ σ H Q, t' σ H Q → t σ H Q) : PE X e t' := ⟨fun pins s σ H Q I q => h.run pins s σ H Q I (i _ _ _ q)⟩
theorem PTimp {t t' : TT} (h : PT X e t) (i : ∀ σ H Q, t' σ H Q → t σ H Q) : PT X e t' := ⟨fun pins s σ H Q I q => h.run pins s σ H Q I (i _ _ _ q)⟩
theorem PAimp {es : List Expr} {t t' : TA} (h : PA X es t) (i : ∀ σ H Q, t' σ H Q → t σ H Q) : PA X es t' := ⟨fun p pins s σ H Q I q => h.run p pins s σ H Q I (i _ _ _ q)⟩
theorem PEor {t t' : TE} (h : PE X e t) (h' : PE X e t') : PE X e (fun σ H Q => t σ H Q ∨ t' σ H Q) := ⟨fun pins s σ H Q I q => q.elim (h.run pins s σ H Q I) (h'.run pins s σ H Q I)⟩
theorem PEnone {t : TE} (h : ∀ σ H Q, ¬ t σ H Q) : PE X e t := ⟨fun pins s σ H Q I q => (h σ H Q q).elim⟩
theorem PTnone {t : TT} (h : ∀ σ H Q, ¬ t σ H Q) : PT X e t := ⟨fun pins s σ H Q I q => (h σ H Q q).elim⟩
end

/-- an expression does what its code says -/
structure SE (G : Wd) (W : WX) (X : Cx) (e : Expr) (a : E) : Prop where
  pe : PE X e (rdE G W a)
  pt : PT X e (rdT G W a)
  pp : PE X e (rdP G a)
  ps : PE X e (rdS G a)
inductive SEs (G : Wd) (W : WX) (X : Cx) : List Expr → Es → Prop
  | nil : SEs G W X [] .nil
  | cons {e : Expr} {es : List Expr} {a : E} {as : Es} (st : isStar e = false) (h : SE G W X e a) (r : SEs G W X es as) : SEs G W X (e :: es) (.cons a as)

section
variable {G : Wd} {W : WX} {X : Cx} {c : Ck}
theorem env_get {R : Rt} {H : Hp} {Rs : Av} {env : VE} {σ : L2.St} {ow : Own} (s : ES R H Rs env σ ow) {i : Nat} {d : D} (h : getV env i = some d) : ∃ v, σ[i]? = some (some v) ∧ RP R H (Avd ow Rs) d v (ow i) := by
  refine s.rep i d ?_
  unfold getV at h
  split at h
  · rename_i d' e; cases h; exact e
  · cases h
/-- e's operand reading out of the others -/
theorem SE.pv {e : Expr} {a : E} (h : SE G W X e a) : PE X e (rdV G W a) := by
  refine PEimp (PEor h.pp h.pe) fun σ H Q q => ?_
  obtain ⟨env, ow, Rs, es, k⟩ := q
  have viaE : KR G.R W Rs (muE G.T a) ow H σ (evX G.T G.call false a env) (OK G.R Rs (muE G.T a) ow H σ (isPl a) Q) → rdE G W a σ H Q := fun k => ⟨env, ow, Rs, es, k.imp fun p _ kp v H' ow' os po r => kp v H' ow' os os po r fun _ => rfl⟩
  have viaP : ∀ d, peek a env = some d → OK G.R Rs (muE G.T a) ow H σ (isPl a) Q (d, env) → isPl a = true → rdP G a σ H Q := fun d hd kp hpl => ⟨env, ow, Rs, d, es, hd, fun v os r ho _ =>
    kp v H ow [] os (Po.refl es) (r.avoid fun a q => .inl (q.elim .inl fun q => .inr (Tm.nil.mp q))) fun z => by rw [hpl] at z; cases z⟩
  unfold viaA at k
  split at k
  · rename_i i
    obtain ⟨p, hp, kp⟩ := k.opt
    simp only [Option.map_eq_some_iff] at hp
    obtain ⟨d, hd, rfl⟩ := hp
    exact .inl (viaP d (by unfold peek; exact hd) kp rfl)
  · rename_i o i
    split at k
    · rename_i d hd
      exact .inl (viaP d hd k rfl)
    · exact .inr (viaE k)
  · exact .inr (viaE k)
end
end VS
set_option Elab.async false
set_option linter.all false
set_option maxRecDepth 100000
set_option maxHeartbeats 2000000
/-! VSi: names, numbers, operators. -/
namespace VS
open PySem PySem.Spec PyProof.Rows L2

section
variable {R : Rt} {H : Hp} {Rs : Av} {mu : Bool} {env : VE} {σ : L2.St} {ow : Own}
theorem set_same {α : Type} : ∀ {l : List α} {i : Nat} {x : α}, l[i]? = some x → l.set i x = l
  | [], _, _, h => by simp at h
  | y :: l, 0, x, h => by simp at h; simp [h]
  | y :: l, i + 1, x, h => by
    simp only [List.getElem?_cons_succ] at h
    simp [set_same h]
theorem getV_lt {i : Nat} {d : D} (h : getV env i = some d) : i < env.length ∧ env[i]? = some (some d) := by
  unfold getV at h
  split at h
  · rename_i d' e
    cases h
    refine ⟨?_, e⟩
    rcases Nat.lt_or_ge i env.length with z | z
    · exact z
    · rw [List.getElem?_eq_none z] at e; cases e
  · cases h
/-- a slot gives up what it owns -/
theorem ES.fzSlot (s : ES R H Rs env σ ow) {i : Nat} {d : D} (h : getV env i = some d) : ∃ v, σ[i]? = some (some v) ∧ RP R H (Avd ow Rs) d v (ow i) ∧ Po R Rs mu ow H (setV env i d.fz) σ (setO ow i []) [] H := by
  obtain ⟨hl, he⟩ := getV_lt h
  obtain ⟨v, hv, r⟩ := s.rep i d he
  refine ⟨v, hv, r, ?_⟩
  have sub : ∀ a, Avd (setO ow i []) Rs a → Avd ow Rs a := fun a q => by
    rcases q with q | q
    · rcases Ow_setO.mp q with z | ⟨j, _, z⟩
      · cases z
      · exact .inl ⟨j, z⟩
    · exact .inr q
  have ap : ∀ a ∈ ow i, ¬ Avd (setO ow i []) Rs a := fun a ha q => by
    rcases q with q | q
    · rcases Ow_setO.mp q with z | ⟨j, hj, z⟩
      · cases z
      · exact hj (s.dj j i a z ha)
    · exact s.rs a q ⟨i, ha⟩
  have r' : RP R H (Avd (setO ow i []) Rs) d.fz v [] := r.freeze (fun a q => .inl (sub a q)) ap
  have p := ES.put (S := fun _ => False) (Rs' := Tm Rs []) (os := []) s hl ⟨fun _ _ h _ => h, fun _ _ h => h.elim⟩ (fun _ z => z.elim) (fun _ z => z) (fun a z => ⟨Tm.nil.mp z, by simp⟩) (by simp) (by simp)
    (r'.avoid fun a q => .inl (q.elim .inl fun q => .inr (Tm.nil.mp q)))
  rw [set_same hv] at p
  refine ⟨p, fun a q => ?_, fun _ _ h _ => h, fun _ h => h, by simp⟩
  rcases q with q | q
  · rcases Ow_setO.mp q with z | ⟨j, _, z⟩
    · cases z
    · exact .inl ⟨j, z⟩
  · cases q
theorem AvdTm {a : Addr} : Avd ow (Tm Rs []) a ↔ Avd ow Rs a := by
  unfold Avd
  rw [Tm.nil]
/-- a name read -/
theorem read_ok (s : ES R H Rs env σ ow) {W : WX} {i : Nat} {Q : VK} (k : KR R W Rs mu ow H σ (readV env i) (EK R Rs mu ow H σ Q)) : ∃ v, σ[i]? = some (some v) ∧ Q v H := by
  unfold readV at k
  split at k
  · rename_i d hd
    split at k
    · rename_i hf
      obtain ⟨v, hv, r⟩ := env_get s hd
      have z := r.fz_nil hf
      rw [z] at r
      exact ⟨v, hv, k v H ow [] (Po.refl s) (r.avoid fun a q => .inl (AvdTm.mp q))⟩
    · obtain ⟨v, hv, r, p⟩ := s.fzSlot hd
      refine ⟨v, hv, k v H _ [] p ?_⟩
      refine RP.freeze (fun a q => .inl ?_) (fun a ha q => ?_) r
      · rcases q with q | q
        · rcases Ow_setO.mp q with z | ⟨j, _, z⟩
          · cases z
          · exact .inl ⟨j, z⟩
        · exact .inr (Tm.nil.mp q)
      · rcases q with q | q
        · rcases Ow_setO.mp q with z | ⟨j, hj, z⟩
          · cases z
          · exact hj (s.dj j i a z ha)
        · exact s.rs a (Tm.nil.mp q) ⟨i, ha⟩
  · exact k.elim
end

/-! ### tests of plain values -/
section
variable {G : Wd} {W : WX} {X : Cx} {c : Ck} {e : Expr} {a : E}
def Plain (X : Cx) (e : Expr) : Prop := ∀ whole, isTrue e X.env whole = (do let v ← whole; standAt e.pos; holding [v] (truthy v))
theorem pt_of {t : TE} (hK : X.K = G.R.K) (h : PE X e t) (he : Plain X e)
    (i : ∀ σ H Q, rdT G W a σ H Q → t σ H fun v H' => ∃ A d os b, RP G.R H' A d v os ∧ truth d = some b ∧ Q b H') (mono : ∀ σ H Q Q', (∀ v H', Q v H' → Q' v H') → t σ H Q → t σ H Q') : PT X e (rdT G W a) := by
  refine PTimp (pt_truth h he) fun σ H Q q => mono _ _ _ _ (fun v H' z => ?_) (i σ H Q q)
  obtain ⟨A, d, os, b, r, e, q⟩ := z
  exact ⟨b, hK ▸ tru_of r e, q⟩
theorem KR.tru {Rs : Av} {mu : Bool} {ow : Own} {H : Hp} {σ : L2.St} {r : Rr (D × VE)} {K : Bool × VE → Prop}
    (k : KR G.R W Rs mu ow H σ ((fin true r).bind fun p => match p.1 with | .bl b => .ok (b, p.2) | _ => .no) K) : KR G.R W Rs mu ow H σ r fun p => ∃ b, truth p.1 = some b ∧ K (b, p.2) := by
  unfold fin at k
  simp only [if_true] at k
  refine k.bind.bind.imp fun p _ kp => ?_
  obtain ⟨x, hx, kx⟩ := kp.opt
  simp only [Option.map_eq_some_iff] at hx
  obtain ⟨b, hb, rfl⟩ := hx
  exact ⟨b, hb, kx⟩
theorem pt_gen (hK : X.K = G.R.K) (h : PE X e (rdE G W a)) (he : Plain X e) (hf : ∀ env, evX G.T G.call true a env = fin true (evX G.T G.call false a env)) : PT X e (rdT G W a) := by
  refine pt_of hK h he (fun σ H Q q => ?_) fun σ H Q Q' i q => ?_
  · obtain ⟨env, ow, Rs, es, k⟩ := q
    refine ⟨env, ow, Rs, es, ?_⟩
    unfold evT at k
    rw [hf] at k
    exact k.tru.imp fun p _ ⟨b, hb, kb⟩ v H' ow' os po r => ⟨_, p.1, os, b, r, hb, kb H' ow' po.nil⟩
  · obtain ⟨env, ow, Rs, es, k⟩ := q
    exact ⟨env, ow, Rs, es, k.imp fun p _ kp v H' ow' os po r => i _ _ (kp v H' ow' os po r)⟩

theorem no_p (h : ∀ env, peek a env = none) : PE X e (rdP G a) := PEnone fun σ H Q ⟨env, ow, Rs, d, es, hd, _⟩ => by rw [h] at hd; cases hd
theorem no_s (h : ∀ env, smp a env = none) : PE X e (rdS G a) := PEnone fun σ H Q ⟨env, ow, Rs, k, es, hd, _⟩ => by rw [h] at hd; cases hd

/-! ### never, names, constants -/
theorem s_never : SE G W X e .never where
  pe := PEnone fun σ H Q ⟨env, ow, Rs, es, k⟩ => by unfold evX at k; exact k
  pt := PTnone fun σ H Q ⟨env, ow, Rs, es, k⟩ => by unfold evT evX at k; exact k
  pp := no_p fun _ => by unfold peek; rfl
  ps := no_s fun _ => by unfold smp; rfl

theorem var_vis (g : Good c G W X) {x : Str} {i : Nat} (h : c.var x i = true) : X.N[i]? = some x ∧ Vis X.env.scope x ∧ (x == ("__debug__" : Str)) = false ∧ (x == ("__classdict__" : Str)) = false := by
  unfold Ck.var noDbg isVis at h
  simp only [Bool.and_eq_true, decide_eq_true_eq, Bool.not_eq_true'] at h
  obtain ⟨h1, h2, h3, h4, _⟩ := h
  refine ⟨by rw [g.N]; exact h1, ?_, h3, h4⟩
  rw [g.sc]
  unfold Vis
  split at h2
  · rename_i q; exact .inl q
  · rename_i q; exact .inr (.inl q)
  · rename_i q; exact .inr (.inr q)
  · cases h2
theorem s_var (g : Good c G W X) {x : Str} {p : Pos} {i : Nat} (h : c.var x i = true) : SE G W X (.Name x p) (.var i) := by
  obtain ⟨h1, h2, h3, h4⟩ := var_vis g h
  have P : PE X (.Name x p) (tVar i) := pe_var h1 h2 h3 h4
  have pp : PE X (.Name x p) (rdP G (.var i)) := PEimp P fun σ H Q ⟨env, ow, Rs, d, es, hd, q⟩ => by
    unfold peek at hd
    obtain ⟨v, hv, r⟩ := env_get es hd
    exact ⟨v, hv, q v _ r (fun r hr a ha => by unfold rootE at hr; cases hr; exact ha) (by unfold PAt; exact hv)⟩
  refine ⟨PEimp P fun σ H Q ⟨env, ow, Rs, es, k⟩ => ?_, pt_of g.K pp (fun _ => rfl) (fun σ H Q q => ?_) (fun σ H Q Q' i q => ?_), pp, PEimp P fun σ H Q ⟨env, ow, Rs, k, es, hk, q⟩ => ?_⟩
  · unfold evX at k
    exact read_ok es k
  · obtain ⟨env, ow, Rs, es, k⟩ := q
    unfold evT evX at k
    simp only [if_true] at k
    have k := k.tru
    obtain ⟨x, hx, b, hb, kb⟩ := k.opt
    simp only [Option.map_eq_some_iff] at hx
    obtain ⟨d, hd, rfl⟩ := hx
    exact ⟨env, ow, Rs, d, es, by unfold peek; exact hd, fun v os r _ _ => ⟨_, d, os, b, r, hb, kb H ow (Po.refl es)⟩⟩
  · obtain ⟨env, ow, Rs, d, es, hd, q⟩ := q
    exact ⟨env, ow, Rs, d, es, hd, fun v os r hr hq => i _ _ (q v os r hr hq)⟩
  · unfold smp at hk
    split at hk <;> cases hk
    rename_i hd
    obtain ⟨v, hv, r⟩ := env_get es hd
    exact ⟨v, hv, by rw [r.int]; exact q⟩
end
end VS
set_option Elab.async false
set_option linter.all false
set_option maxRecDepth 100000
set_option maxHeartbeats 2000000
/-! VSj: constants, operators, and/or/not, displays. -/
namespace VS
open PySem PySem.Spec PyProof.Rows L2
section
variable {G : Wd} {W : WX} {X : Cx} {c : Ck}

/-! ### a value that needs nothing -/
/-- what a constant, a global name gives -/
theorem s_val {e : Expr} {a : E} {d : D} {v : V} (hK : X.K = G.R.K) (hP : PE X e (tC v)) (he : Plain X e) (hr : ∀ H A, RP G.R H A d v []) (h0 : ∀ env, evX G.T G.call false a env = .ok (d, env)) (h1 : ∀ env, evX G.T G.call true a env = fin true (.ok (d, env)))
    (hp : ∀ env, peek a env = none) (hs : ∀ env k, smp a env = some k → v = .int k) : SE G W X e a := by
  have pe : PE X e (rdE G W a) := PEimp hP fun σ H Q ⟨env, ow, Rs, es, k⟩ => by
    rw [h0] at k
    exact k v H ow [] (Po.refl es) (hr _ _)
  refine ⟨pe, pt_gen hK pe he fun env => by rw [h0, h1], no_p hp, PEimp hP fun σ H Q ⟨env, ow, Rs, k, es, hk, q⟩ => ?_⟩
  rw [hs env k hk]
  exact q
theorem s_con (g : Good c G W X) {e : Expr} {d : D} {k : Const} (hv : vConst e = some k) (h : okCon k d = true) : SE G W X e (.con d) := by
  obtain ⟨j, p, rfl⟩ := vConst_eq hv
  unfold okCon at h
  split at h
  · exact s_val g.K pe_non (fun _ => rfl) (fun _ _ => RP.mkNon) (fun _ => by unfold evX; rfl) (fun _ => by unfold evX; rfl) (fun _ => by unfold peek; rfl) fun _ _ z => by unfold smp at z; cases z
  · rename_i a b
    have hab : a = b := by simpa using h
    subst hab
    exact s_val g.K pe_bl (fun _ => rfl) (fun _ _ => RP.mkBl) (fun _ => by unfold evX; rfl) (fun _ => by unfold evX; rfl) (fun _ => by unfold peek; rfl) fun _ _ z => by unfold smp at z; cases z
  · rename_i i i'
    have hi := of_decide_eq_true h
    subst hi
    exact s_val g.K pe_int (fun _ => rfl) (fun _ _ => RP.mkInt) (fun _ => by unfold evX; rfl) (fun _ => by unfold evX; rfl) (fun _ => by unfold peek; rfl) fun _ _ z => by unfold smp at z; cases z; rfl
  · rename_i x t
    have hx := of_decide_eq_true h
    have hx' : x = ⟨t.toArray⟩ := by cases x; simp only at hx; rw [hx]
    subst hx'
    exact s_val g.K pe_str (fun _ => rfl) (fun _ _ => RP.mkStr) (fun _ => by unfold evX; rfl) (fun _ => by unfold evX; rfl) (fun _ => by unfold peek; rfl) fun _ _ z => by unfold smp at z; cases z
  · cases h
theorem glo_ok (g : Good c G W X) {x : Str} (h : c.glo x = true) : Gl X x ∧ (x == ("__debug__" : Str)) = false ∧ x ≠ "__name__" := by
  unfold Ck.glo noDbg isGl at h
  simp only [Bool.and_eq_true, Bool.not_eq_true'] at h
  obtain ⟨h1, h2, _, h3⟩ := h
  refine ⟨?_, h2, fun z => by rw [z] at h3; revert h3; decide⟩
  unfold Gl Env.kindOf
  rw [g.sc]
  split at h1
  · assumption
  · cases h1
theorem ty_boot {n : String} {x : Str} (h : tyN n = some x) : bootBuiltins x = some (.type n) := by
  unfold tyN at h
  split at h <;> cases h <;> decide +kernel
theorem s_glo (g : Good c G W X) {x : Str} {p : Pos} {d : D} (hg : c.glo x = true) (h : (match d with
      | .cls k => decide (c.nm.gc[k]? = some (some x)) && decide (k < c.nm.nc)
      | .ty n => decide (tyN n = some x) && decide (x ∈ c.nm.bn)
      | _ => false) = true) : SE G W X (.Name x p) (.glo d) := by
  obtain ⟨h1, h2, h3⟩ := glo_ok g hg
  split at h
  · rename_i k
    simp only [Bool.and_eq_true, decide_eq_true_eq] at h
    have hm := (g.nmk.gc k x (by rw [← g.nm]; exact h.1)).1
    have hk : k < G.R.nc := by rw [← g.nmk.nc, ← g.nm]; exact h.2
    exact s_val (d := .cls k) (v := .ref (G.R.ca k)) g.K (pe_glob h1 hm rfl h2) (fun _ => rfl) (fun _ _ => by unfold RP; exact ⟨⟨rfl, hk⟩, rfl⟩) (fun _ => by unfold evX; rfl) (fun _ => by unfold evX; rfl) (fun _ => by unfold peek; rfl) fun _ _ z => by unfold smp at z; cases z
  · rename_i n
    simp only [Bool.and_eq_true, decide_eq_true_eq] at h
    have hm := g.nmk.bn x (by rw [← g.nm]; exact h.2)
    exact s_val (d := .ty n) (v := .ty n) g.K (pe_bltn h1 hm (ty_boot h.1) rfl h3 h2) (fun _ => rfl) (fun _ _ => by unfold RP; exact ⟨rfl, rfl⟩) (fun _ => by unfold evX; rfl) (fun _ => by unfold evX; rfl) (fun _ => by unfold peek; rfl) fun _ _ z => by unfold smp at z; cases z
  · cases h

/-! ### -a -/
theorem s_neg (hK : X.K = G.R.K) {x : Expr} {p : Pos} {a : E} (h : SE G W X x a) : SE G W X (.UnaryOp .USub x p) (.neg a) := by
  have pe : PE X (.UnaryOp .USub x p) (rdE G W (.neg a)) := PEimp (pe_un un_neg h.pe) fun σ H Q ⟨env, ow, Rs, es, k⟩ => by
    unfold evX at k
    refine ⟨env, ow, Rs, es, k.bind.imp fun q _ kq => ?_⟩
    intro v H' ow' os po r
    split at kq
    · rename_i i hd
      rw [hd] at r
      exact ⟨i, r.int, kq _ _ ow' [] po.nil RP.mkInt⟩
    · exact kq.elim
  refine ⟨pe, pt_gen hK pe (fun _ => rfl) fun env => ?_, no_p fun _ => by unfold peek; rfl, PEimp (pe_un un_neg h.ps) fun σ H Q ⟨env, ow, Rs, k, es, hk, q⟩ => ?_⟩
  · unfold evX; rfl
  · unfold smp at hk
    simp only [Option.map_eq_some_iff] at hk
    obtain ⟨i, hi, rfl⟩ := hk
    exact ⟨env, ow, Rs, i, es, hi, i, rfl, q⟩

/-! ### a value given up at once -/
theorem frz_rd {a : E} {σ : L2.St} {H : Hp} {Q : VK} (q : rdE G W (.frz a) σ H Q) : rdE G W a σ H Q := by
  obtain ⟨env, ow, Rs, es, k⟩ := q
  have hm : muE G.T (.frz a) = muE G.T a := by rw [muE]
  have k2 : KR G.R W Rs (muE G.T a) ow H σ ((evX G.T G.call false a env).bind fun p => .ok (p.1.fz, p.2)) (EK G.R Rs (muE G.T a) ow H σ Q) := by
    rw [hm] at k
    rw [evX] at k
    exact k
  exact ⟨env, ow, Rs, es, k2.bind.imp fun p _ kp v H' ow' os po r => kp v H' ow' [] po.nil ((po.fz1 es r).avoid fun a q => .inl (q.imp id fun z => Tm.nil.mp z))⟩
theorem s_frz {e : Expr} {a : E} (h : SE G W X e a) : SE G W X e (.frz a) := by
  have hm : muE G.T (.frz a) = muE G.T a := by rw [muE]
  refine ⟨PEimp h.pe fun σ H Q ⟨env, ow, Rs, es, k⟩ => ?_, PTimp h.pt fun σ H Q ⟨env, ow, Rs, es, k⟩ => ?_, no_p fun _ => by rw [peek] <;> simp, no_s fun _ => by rw [smp] <;> simp⟩
  · have k2 : KR G.R W Rs (muE G.T a) ow H σ ((evX G.T G.call false a env).bind fun p => .ok (p.1.fz, p.2)) (EK G.R Rs (muE G.T a) ow H σ Q) := by
      rw [hm] at k
      rw [evX] at k
      exact k
    exact ⟨env, ow, Rs, es, k2.bind.imp fun p _ kp v H' ow' os po r => kp v H' ow' [] po.nil ((po.fz1 es r).avoid fun a q => .inl (q.imp id fun z => Tm.nil.mp z))⟩
  · refine ⟨env, ow, Rs, es, ?_⟩
    rw [hm] at k
    have e2 : evT G.T G.call (.frz a) env = evT G.T G.call a env := by
      unfold evT
      rw [evX]
      rfl
    rw [e2] at k
    exact k
/-! ### two operands -/
def rInt (o : Bop) : R2 := fun x y H Q => ∃ i j r, x = .int i ∧ y = .int j ∧ intB o i j = some r ∧ Q (.int r) H
theorem op_int (o : Bop) : OpR X (binaryOp (bopO o)) (rInt o) := by
  intro pins s σ H x y v u Q I rx ry h
  obtain ⟨i, j, r, rfl, rfl, e, q⟩ := h
  unfold intB at e
  split at e
  · cases e; exact op_add pins s σ H _ _ v u Q I rx ry ⟨_, _, rfl, rfl, q⟩
  · cases e; exact op_sub pins s σ H _ _ v u Q I rx ry ⟨_, _, rfl, rfl, q⟩
  · split at e <;> cases e
    rename_i hb
    exact op_mul pins s σ H _ _ v u Q I rx ry ⟨_, _, rfl, rfl, (show CMul _ _ from of_decide_eq_true (p := (-(2 ^ 64) < _ ∧ _ < 2 ^ 64) ∨ (-(2 ^ 64) < _ ∧ _ < 2 ^ 64)) hb), q⟩
  · split at e <;> cases e
    rename_i hb
    simp only [Bool.and_eq_true, decide_eq_true_eq] at hb
    exact op_fdiv pins s σ H _ _ v u Q I rx ry ⟨_, _, rfl, rfl, hb, q⟩
  · split at e <;> cases e
    rename_i hb
    exact op_mod pins s σ H _ _ v u Q I rx ry ⟨_, _, rfl, rfl, of_decide_eq_true hb, q⟩
  · cases e
theorem ma {a b : Bool} : a = true → (a || b) = true := fun z => by rw [z]; rfl
theorem mb {a b : Bool} : b = true → (a || b) = true := fun z => by rw [z, Bool.or_true]
/-- two operands, one behind the other, then what is done with them -/
theorem two_ok {Rs : Av} {ow : Own} {H : Hp} {σ : L2.St} {env : VE} {a b : E} {R2' : V → V → Hp → Prop} {f : D × VE → D × VE → Rr (D × VE)} {Q : VK} (es : ES G.R H Rs env σ ow)
    (k : KR G.R W Rs (muE G.T a || muE G.T b) ow H σ ((viaA a (fun v => evX G.T G.call false a v) env).bind fun p => if p.1.isFz || !muE G.T b || !isPl a then (viaA b (fun v => evX G.T G.call false b v) p.2).bind fun q => f p q else .no) (EK G.R Rs (muE G.T a || muE G.T b) ow H σ Q))
    (hf : ∀ p q v w H2 ow2 os1 os2 os, Po G.R Rs (muE G.T a || muE G.T b) ow H q.2 σ ow2 os H2 → RP G.R H2 (Avd ow2 (Tm Rs os)) p.1 v os1 → RP G.R H2 (Avd ow2 (Tm Rs os)) q.1 w os2 →
      KR G.R W Rs (muE G.T a || muE G.T b) ow H σ (f p q) (EK G.R Rs (muE G.T a || muE G.T b) ow H σ Q) → R2' v w H2) :
    rdV G W a σ H fun x H1 => rdV G W b σ H1 fun y H2 => R2' x y H2 := by
  refine ⟨env, ow, Rs, es, (k.bind.le ma).imp fun p _ kp => ?_⟩
  intro v H1 ow1 os1 os1' po1 r1 hp1
  split at kp
  · rename_i hc
    refine ⟨p.2, ow1, Tm Rs os1, po1.es, (kp.bind.shift po1 ma mb).imp fun q _ kq => ?_⟩
    intro w H2 ow2 os2 os2' po2 r2 hp2
    have s1 := keepV po1.es po2 r1 hc hp1
    have po := Po.seq (os := []) po1 po2 (by simp) (by simp)
    have lo : ∀ a, Avd ow2 (Tm Rs []) a → Avd ow2 (Tm (Tm Rs os1) os2) a := fun a q => by
      rcases q with q | q
      · exact .inl q
      · exact .inr (.inl (.inl (Tm.nil.mp q)))
    exact hf p q v w H2 ow2 _ _ [] po (s1.avoid fun a q => .inl (lo a q)) (r2.avoid fun a q => .inl (lo a q)) kq
  · exact kp.elim
theorem kr_or {α : Type} {Rs : Av} {mu : Bool} {ow : Own} {H : Hp} {σ : L2.St} {a b : Rr α} {K : α → Prop} (k : KR G.R W Rs mu ow H σ (orR a b) K) : KR G.R W Rs mu ow H σ a K ∨ KR G.R W Rs mu ow H σ b K := by
  cases a with
  | ok x => exact .inl k
  | ex c xs env => exact .inl k
  | no => exact .inr k
/-- two operands, each given up -/
theorem two_fz {Rs : Av} {ow : Own} {H : Hp} {σ : L2.St} {env : VE} {a b : E} {R2' : V → V → Hp → Prop} {f : D × VE → D × VE → Rr (D × VE)} {Q : VK} (es : ES G.R H Rs env σ ow)
    (k : KR G.R W Rs (muE G.T a || muE G.T b) ow H σ ((evX G.T G.call false a env).bind fun p => (evX G.T G.call false b p.2).bind fun q => f p q) (EK G.R Rs (muE G.T a || muE G.T b) ow H σ Q))
    (hf : ∀ p q v w H2 ow2, Po G.R Rs (muE G.T a || muE G.T b) ow H q.2 σ ow2 [] H2 → RP G.R H2 (Avd ow2 (Tm Rs [])) p.1.fz v [] → RP G.R H2 (Avd ow2 (Tm Rs [])) q.1.fz w [] →
      KR G.R W Rs (muE G.T a || muE G.T b) ow H σ (f p q) (EK G.R Rs (muE G.T a || muE G.T b) ow H σ Q) → R2' v w H2) :
    rdE G W a σ H fun x H1 => rdE G W b σ H1 fun y H2 => R2' x y H2 := by
  refine ⟨env, ow, Rs, es, (k.bind.le ma).imp fun p _ kp => ?_⟩
  intro v H1 ow1 os1 po1 r1
  have r1f := po1.fz1 es r1
  have es1 := po1.nil.es
  refine ⟨p.2, ow1, Tm Rs [], es1, (kp.bind.shift po1.nil ma mb).imp fun q _ kq => ?_⟩
  intro w H2 ow2 os2 po2 r2
  have r2f := po2.fz1 es1 r2
  have s1 := po2.keep es1 (r1f.avoid fun a q => .inl (q.imp id fun z => Tm.nil.mp z)) (by simp)
  exact hf p q v w H2 ow2 (Po.seq (os := []) po1.nil po2 (by simp) (by simp)) (s1.avoid fun a q => .inl (q.imp id fun z => .inl z)) r2f kq
theorem s_bin (g : Good c G W X) {x y : Expr} {p : Pos} {o : Bop} {a b : E} (h1 : SE G W X x a) (h2 : SE G W X y b) : SE G W X (.BinOp x (bopO o) y p) (.bin o a b) := by
  have pe : PE X (.BinOp x (bopO o) y p) (rdE G W (.bin o a b)) := PEimp (PEor (pe_op (op_bin g.K o) h1.pv h2.pv) (pe_op (op_bin g.K o) h1.pe h2.pe)) fun σ H Q ⟨env, ow, Rs, es, k⟩ => by
    unfold evX at k
    rcases kr_or k with k | k
    · refine .inl (two_ok (R2' := fun x y H2 => rBin G.R o x y H2 Q) es k fun p q v w H2 ow2 os1 os2 os po r1 r2 kq => ?_)
      obtain ⟨d, hd, kd⟩ := kq.opt
      simp only [Option.map_eq_some_iff] at hd
      obtain ⟨d', hd, rfl⟩ := hd
      exact ⟨_, _, _, d', os1, os2, r1, r2, hd, NewR.of po kd⟩
    · refine .inr (two_fz (R2' := fun x y H2 => rBin G.R o x y H2 Q) es k fun p q v w H2 ow2 po r1 r2 kq => ?_)
      obtain ⟨d, hd, kd⟩ := kq.opt
      simp only [Option.map_eq_some_iff] at hd
      obtain ⟨d', hd, rfl⟩ := hd
      exact ⟨_, _, _, d', [], [], r1, r2, hd, NewR.of po kd⟩
  refine ⟨pe, pt_gen g.K pe (fun _ => rfl) fun env => ?_, no_p fun _ => by unfold peek; rfl, PEimp (pe_op (op_int o) h1.ps h2.ps) fun σ H Q ⟨env, ow, Rs, k, es, hk, q⟩ => ?_⟩
  · unfold evX; rfl
  · unfold smp at hk
    simp only [Option.bind_eq_some_iff] at hk
    obtain ⟨i, hi, j, hj, e⟩ := hk
    exact ⟨env, ow, Rs, i, es, hi, env, ow, Rs, j, es, hj, i, j, k, rfl, rfl, e, q⟩

/-! ### comparisons -/
theorem s_cmp (g : Good c G W X) {x y : Expr} {p : Pos} {o : Cop} {a b : E} (h1 : SE G W X x a) (h2 : SE G W X y b) (ho : (match o with
      | .is => lit b
      | .isn => lit b
      | .inn => false
      | .nin => false
      | _ => true) = true) : SE G W X (.Compare x [copO o] [y] p) (.cmp o a b) := by
  have main : ∀ (r : R2), OpR X (compareOp (copO o)) r → behindInMarks (copO o) y = false → (∀ (Rs : Av) (ow ow2 : Own) (H H2 : Hp) (σ : L2.St) (p q : D × VE) (v w : V) (os1 os2 os : List Addr) (mu : Bool) (Q : VK), Po G.R Rs mu ow H q.2 σ ow2 os H2 → RP G.R H2 (Avd ow2 (Tm Rs os)) p.1 v os1 → RP G.R H2 (Avd ow2 (Tm Rs os)) q.1 w os2 →
      KR G.R W Rs mu ow H σ (evC o p.1 q.1 q.2) (EK G.R Rs mu ow H σ Q) → r v w H2 Q) → SE G W X (.Compare x [copO o] [y] p) (.cmp o a b) := fun r hr hm hx => by
    have all : ∀ m env, evX G.T G.call m (.cmp o a b) env = ((viaA a (fun v => evX G.T G.call false a v) env).bind fun p => if p.1.isFz || !muE G.T b || !isPl a then (viaA b (fun v => evX G.T G.call false b v) p.2).bind fun q => evC o p.1 q.1 q.2 else .no) := fun m env => by
      rw [evX]
    refine ⟨PEimp (pe_cmpR hr h1.pv h2.pv hm) fun σ H Q ⟨env, ow, Rs, es, k⟩ => ?_, PTimp (pt_cmpR hr h1.pv h2.pv hm) fun σ H Q ⟨env, ow, Rs, es, k⟩ => ?_, no_p fun _ => by unfold peek; rfl, no_s fun _ => by unfold smp; rfl⟩
    · rw [all] at k
      exact two_ok (R2' := fun x y H2 => r x y H2 Q) es k fun p q v w H2 ow2 os1 os2 os po r1 r2 kq => hx _ _ _ _ _ _ _ _ _ _ _ _ _ _ _ po r1 r2 kq
    · unfold evT at k
      rw [all] at k
      refine two_ok (Q := fun v H' => ∃ k, v = .bl k ∧ Q k H') (R2' := fun x y H2 => r x y H2 fun v H' => ∃ k, v = .bl k ∧ Q k H') es (k.bind.imp fun p _ kp v H' ow' os po r => ?_) fun p q v w H2 ow2 os1 os2 os po r1 r2 kq => hx _ _ _ _ _ _ _ _ _ _ _ _ _ _ _ po r1 r2 kq
      split at kp
      · rename_i b hb
        rw [hb] at r
        exact ⟨b, r.bl, kp H' ow' po.nil⟩
      · exact kp.elim
  have gen : (∀ p q env, evC o p q env = optR ((cmpD o p q).map fun r => (.bl r, env))) → behindInMarks (copO o) y = false → SE G W X (.Compare x [copO o] [y] p) (.cmp o a b) := fun he hm =>
    main (rCmp G.R o) (op_cmp g.K g.un o) hm fun Rs ow ow2 H H2 σ p q v w os1 os2 os mu Q po r1 r2 k => by
      rw [he] at k
      obtain ⟨d, hd, kd⟩ := k.opt
      simp only [Option.map_eq_some_iff] at hd
      obtain ⟨b, hb, rfl⟩ := hd
      exact ⟨_, _, _, b, os1, os2, r1, r2, hb, kd _ H2 ow2 [] po.nil RP.mkBl⟩
  cases o
  case eq => exact gen (fun _ _ _ => rfl) (nomark _)
  case ne => exact gen (fun _ _ _ => rfl) (nomark _)
  case lt => exact gen (fun _ _ _ => rfl) (nomark _)
  case le => exact gen (fun _ _ _ => rfl) (nomark _)
  case gt => exact gen (fun _ _ _ => rfl) (nomark _)
  case ge => exact gen (fun _ _ _ => rfl) (nomark _)
  case inn => cases ho
  case nin => cases ho
  case is =>
    refine main (rIsN G.R .is) (op_is .is (.inl rfl)) (nomark _) fun Rs ow ow2 H H2 σ p q v w os1 os2 os mu Q po r1 r2 k => ?_
    unfold evC at k
    simp only at k
    split at k
    · rename_i hq
      rw [hq] at r2
      exact ⟨_, _, os1, r1, r2.non, .inl ⟨rfl, k _ H2 ow2 [] po.nil RP.mkBl⟩⟩
    · exact k.elim
  case isn =>
    refine main (rIsN G.R .isn) (op_is .isn (.inr rfl)) (nomark _) fun Rs ow ow2 H H2 σ p q v w os1 os2 os mu Q po r1 r2 k => ?_
    unfold evC at k
    simp only at k
    split at k
    · rename_i hq
      rw [hq] at r2
      exact ⟨_, _, os1, r1, r2.non, .inr ⟨rfl, k _ H2 ow2 [] po.nil RP.mkBl⟩⟩
    · exact k.elim
end
end VS
set_option Elab.async false
set_option linter.all false
set_option maxRecDepth 100000
set_option maxHeartbeats 2000000
/-! VSk: lists of expressions; and, or, not, a if c else b; displays; subscripts. -/
namespace VS
open PySem PySem.Spec PyProof.Rows L2
section
variable {R : Rt} {W : WX} {Rs : Av} {mu m1 m2 : Bool} {ow ow1 : Own} {H H1 : Hp} {σ : L2.St} {env1 : VE} {os1 : List Addr}
theorem lessT {a : Addr} {ow2 : Own} {os2 : List Addr} (h : Avd ow2 (Tm Rs os2) a) : Avd ow2 (Tm (Tm Rs os1) os2) a := by
  rcases h with q | q | q
  · exact .inl q
  · exact .inr (.inl (.inl q))
  · exact .inr (.inr q)
theorem EK.next {Q : VK} {p : D × VE} (k : EK R Rs mu ow H σ Q p) (po : Po R Rs m1 ow H env1 σ ow1 os1 H1) (l1 : m1 = true → mu = true) (l2 : m2 = true → mu = true) : EK R (Tm Rs os1) m2 ow1 H1 σ Q p := fun v H' ow' os p2 r =>
  k v H' ow' os ((Po.seq po p2 (fun a h => .inr h) p2.nd).le fun z => (Bool.or_eq_true _ _ ▸ z).elim l1 l2) (r.avoid fun a q => .inl (lessT q))
theorem TK.next {Q : Bool → Hp → Prop} {p : Bool × VE} (k : TK R Rs mu ow H σ Q p) (po : Po R Rs m1 ow H env1 σ ow1 os1 H1) (l1 : m1 = true → mu = true) (l2 : m2 = true → mu = true) : TK R (Tm Rs os1) m2 ow1 H1 σ Q p := fun H' ow' p2 =>
  k H' ow' ((Po.seq po p2 (fun a h => .inr h) p2.nd).le fun z => (Bool.or_eq_true _ _ ▸ z).elim l1 l2)
end

section
variable {G : Wd} {W : WX} {X : Cx} {c : Ck}
section
variable {Rs : Av} {mu m1 : Bool} {ow ow1 : Own} {H H1 : Hp} {σ : L2.St} {env1 : VE} {os1 : List Addr}
theorem nextE {b : E} {Q : VK} (po : Po G.R Rs m1 ow H env1 σ ow1 os1 H1) (k : KR G.R W Rs mu ow H σ (evX G.T G.call false b env1) (EK G.R Rs mu ow H σ Q)) (l1 : m1 = true → mu = true) (l2 : muE G.T b = true → mu = true) : rdE G W b σ H1 Q :=
  ⟨env1, ow1, Tm Rs os1, po.es, (k.shift po l1 l2).imp fun _ _ kp => kp.next po l1 l2⟩
theorem nextT {b : E} {Q : Bool → Hp → Prop} (po : Po G.R Rs m1 ow H env1 σ ow1 os1 H1) (k : KR G.R W Rs mu ow H σ (evT G.T G.call b env1) (TK G.R Rs mu ow H σ Q)) (l1 : m1 = true → mu = true) (l2 : muE G.T b = true → mu = true) : rdT G W b σ H1 Q :=
  ⟨env1, ow1, Tm Rs os1, po.es, (k.shift po l1 l2).imp fun _ _ kp => kp.next po l1 l2⟩
/-- a test's truth, then the rest -/
theorem KR.test {α : Type} {a : E} {env : VE} {F : Bool → VE → Rr α} {K : α → Prop} (k : KR G.R W Rs mu ow H σ ((evX G.T G.call true a env).bind fun p => match p.1 with | .bl b => F b p.2 | _ => .no) K) :
    KR G.R W Rs mu ow H σ (evT G.T G.call a env) fun q => KR G.R W Rs mu ow H σ (F q.1 q.2) K := by
  unfold evT
  cases h : evX G.T G.call true a env with
  | no => rw [h] at k; exact k
  | ex c xs e => rw [h] at k; exact k
  | ok p =>
    rw [h] at k
    obtain ⟨d, e⟩ := p
    have k' : KR G.R W Rs mu ow H σ (match d with | .bl b => F b e | _ => .no) K := k
    show KR G.R W Rs mu ow H σ (match d with | .bl b => Rr.ok (b, e) | _ => .no) _
    cases d <;> first | exact k' | exact k'.elim
end

/-! ### lists -/
theorem pa_es : ∀ {es : List Expr} {as : Es}, SEs G W X es as → PA X es (rdEs G W as)
  | _, _, .nil => PAimp pa_nil fun σ H Q ⟨env, ow, Rs, es, k⟩ => by
    rw [evEs] at k
    exact k [] H ow [] (Po.refl es) RPs.nil
  | _, _, .cons (e := e) (es := es) (a := a) (as := as) st h r => by
    refine PAimp (pa_cons h.pe (pa_es r) ?_) fun σ H Q ⟨env, ow, Rs, es, k⟩ => ?_
    · cases e <;> first | rfl | cases st
    · rw [evEs] at k
      have hm : muEs G.T (.cons a as) = (muE G.T a || muEs G.T as) := by rw [muEs]
      rw [hm] at k
      refine ⟨env, ow, Rs, es, (k.bind.le ma).imp fun p _ kp => ?_⟩
      intro v H1 ow1 os1 po1 r1
      refine ⟨p.2, ow1, Tm Rs os1, po1.es, (kp.bind.shift po1 ma mb).imp fun q _ kq => ?_⟩
      intro vs H2 ow2 os2 po2 r2
      have r1' := po2.keep po1.es r1 fun a ha => .inr ha
      have ap := po2.apart po1.es
      have hnd : (os1 ++ os2).Nodup := List.nodup_append.mpr ⟨po1.nd, po2.nd, fun a ha b hb e => ap b hb (.inr (e ▸ .inr ha))⟩
      have po := Po.seq (os := os1 ++ os2) po1 po2 (fun a h => List.mem_append.mp h) hnd
      have lo : ∀ a, Avd ow2 (Tm Rs (os1 ++ os2)) a → Avd ow2 (Tm (Tm Rs os1) os2) a := fun a q => by
        rcases q with q | q | q
        · exact .inl q
        · exact .inr (.inl (.inl q))
        · rcases List.mem_append.mp q with z | z
          · exact .inr (.inl (.inr z))
          · exact .inr (.inr z)
      exact kq (v :: vs) H2 ow2 (os1 ++ os2) po (RPs.cons (r1'.avoid fun a q => .inl (lo a q)) (r2.avoid fun a q => .inl (lo a q)))
theorem RVs.avoid {R : Rt} {H : Hp} {A A' : Av} (hB : ∀ a, A' a → A a) : ∀ {ds : List D} {vs : List V}, RVs R H A ds vs → RVs R H A' ds vs
  | [], _, h => by unfold RVs at h ⊢; exact h
  | d :: ds, vs, h => by
    unfold RVs at h ⊢
    obtain ⟨v, vs', os, e, r, h⟩ := h
    exact ⟨v, vs', os, e, r.avoid fun a q => .inl (hB a q), RVs.avoid hB h⟩
theorem pa_as : ∀ {es : List Expr} {as : Es}, SEs G W X es as → PA X es (rdAs G W as)
  | _, _, .nil => PAimp pa_nil fun σ H Q ⟨env, ow, Rs, es, k⟩ => by
    rw [evAs] at k
    exact k [] H ow [] (Po.refl es) (by unfold RVs; rfl)
  | _, _, .cons (e := e) (es := es) (a := a) (as := as) st h r => by
    refine PAimp (pa_cons h.pv (pa_as r) ?_) fun σ H Q ⟨env, ow, Rs, es, k⟩ => ?_
    · cases e <;> first | rfl | cases st
    · rw [evAs] at k
      have hm : muEs G.T (.cons a as) = (muE G.T a || muEs G.T as) := by rw [muEs]
      rw [hm] at k
      refine ⟨env, ow, Rs, es, (k.bind.le ma).imp fun p _ kp => ?_⟩
      intro v H1 ow1 os1 os1' po1 r1 hp1
      split at kp
      · rename_i hc
        refine ⟨p.2, ow1, Tm Rs os1, po1.es, (kp.bind.shift po1 ma mb).imp fun q _ kq => ?_⟩
        intro vs H2 ow2 os2 po2 r2
        have s1 := keepV po1.es po2 r1 hc hp1
        have po := Po.seq (os := []) po1 po2 (by simp) (by simp)
        have lo : ∀ a, Avd ow2 (Tm Rs []) a → Avd ow2 (Tm (Tm Rs os1) os2) a := fun a q => by
          rcases q with q | q
          · exact .inl q
          · exact .inr (.inl (.inl (Tm.nil.mp q)))
        refine kq (v :: vs) H2 ow2 [] po ?_
        unfold RVs
        exact ⟨v, vs, _, rfl, s1.avoid fun a q => .inl (lo a q), r2.avoid lo⟩
      · exact kp.elim

/-! ### and, or -/
def kop (k : Bool) : BoolOp := if k then .And else .Or
theorem bool_pe {k : Bool} {p : Pos} : ∀ {es : List Expr} {as : Es}, SEs G W X es as → ∀ e a, isStar e = false → SE G W X e a →
    PE X (.BoolOp (kop k) (e :: es) p) (fun σ H Q => ∃ env ow Rs, ES G.R H Rs env σ ow ∧ KR G.R W Rs (muEs G.T (.cons a as)) ow H σ (evB G.T G.call false k (.cons a as) env) (EK G.R Rs (muEs G.T (.cons a as)) ow H σ Q))
  | _, _, .nil, e, a, st, h => PEimp (pe_one h.pe) fun σ H Q ⟨env, ow, Rs, es, q⟩ => by
    rw [evB] at q
    have hm : muEs G.T (.cons a .nil) = (muE G.T a || false) := by rw [muEs, muEs]
    rw [hm, Bool.or_false] at q
    exact ⟨env, ow, Rs, es, q⟩
  | _, _, .cons (e := e') (es := es) (a := a') (as := as) st' h' r, e, a, st, h => by
    have ih := bool_pe (k := k) (p := p) r e' a' st' h'
    have hm : muEs G.T (.cons a (.cons a' as)) = (muE G.T a || muEs G.T (.cons a' as)) := by rw [muEs]
    have key : ∀ σ H Q env ow Rs, ES G.R H Rs env σ ow → KR G.R W Rs (muEs G.T (.cons a (.cons a' as))) ow H σ (evB G.T G.call false k (.cons a (.cons a' as)) env) (EK G.R Rs (muEs G.T (.cons a (.cons a' as))) ow H σ Q) →
        rdE G W a σ H fun x H1 => ∃ b, x = .bl b ∧ if b = k then (∃ env ow Rs, ES G.R H1 Rs env σ ow ∧ KR G.R W Rs (muEs G.T (.cons a' as)) ow H1 σ (evB G.T G.call false k (.cons a' as) env) (EK G.R Rs (muEs G.T (.cons a' as)) ow H1 σ Q)) else Q (.bl b) H1 := fun σ H Q env ow Rs es q => by
      rw [evB] at q
      case x_3 => intro z; cases z
      rw [hm] at q
      refine ⟨env, ow, Rs, es, (q.bind.le ma).imp fun p _ kp => ?_⟩
      intro v H1 ow1 os1 po1 r1
      split at kp
      · rename_i b hb
        rw [hb] at r1
        refine ⟨b, r1.bl, ?_⟩
        split at kp
        · rename_i hk
          rw [if_pos hk]
          exact ⟨p.2, ow1, Tm Rs os1, po1.es, (kp.shift po1 ma mb).imp fun _ _ kq => kq.next po1 ma mb⟩
        · rename_i hk
          rw [if_neg hk]
          exact kp _ H1 ow1 [] (po1.nil.le ma) RP.mkBl
      · exact kp.elim
    cases k with
    | true =>
      refine PEimp (pe_and h.pe ih) fun σ H Q ⟨env, ow, Rs, es, q⟩ => ?_
      obtain ⟨env, ow, Rs, es, q⟩ := key σ H Q env ow Rs es q
      refine ⟨env, ow, Rs, es, q.imp fun p _ kp v H' ow' os po r => ?_⟩
      obtain ⟨b, e, z⟩ := kp v H' ow' os po r
      refine ⟨b, e, ?_⟩
      cases b with
      | true => exact z
      | false => exact z
    | false =>
      refine PEimp (pe_or h.pe ih) fun σ H Q ⟨env, ow, Rs, es, q⟩ => ?_
      obtain ⟨env, ow, Rs, es, q⟩ := key σ H Q env ow Rs es q
      refine ⟨env, ow, Rs, es, q.imp fun p _ kp v H' ow' os po r => ?_⟩
      obtain ⟨b, e, z⟩ := kp v H' ow' os po r
      refine ⟨b, e, ?_⟩
      cases b with
      | true => exact z
      | false => exact z

theorem bool_pw {k : Bool} {p : Pos} : ∀ {es : List Expr} {as : Es}, SEs G W X es as → ∀ e a, isStar e = false → SE G W X e a →
    PW X (.BoolOp (kop k) (e :: es) p) (fun σ H Q => ∃ env ow Rs, ES G.R H Rs env σ ow ∧ KR G.R W Rs (muEs G.T (.cons a as)) ow H σ (evB G.T G.call true k (.cons a as) env) (fun p => ∃ b, p.1 = .bl b ∧ TK G.R Rs (muEs G.T (.cons a as)) ow H σ Q (b, p.2)))
  | _, _, .nil, e, a, st, h => by
    have hm : muEs G.T (.cons a .nil) = muE G.T a := by rw [muEs, muEs, Bool.or_false]
    have key : ∀ σ H Q env ow Rs, ES G.R H Rs env σ ow → KR G.R W Rs (muEs G.T (.cons a .nil)) ow H σ (evB G.T G.call true k (.cons a .nil) env) (fun p => ∃ b, p.1 = .bl b ∧ TK G.R Rs (muEs G.T (.cons a .nil)) ow H σ Q (b, p.2)) → rdT G W a σ H Q := fun σ H Q env ow Rs es q => by
      rw [evB, hm] at q
      refine ⟨env, ow, Rs, es, ?_⟩
      unfold evT
      cases hr : evX G.T G.call true a env with
      | no => rw [hr] at q; exact q
      | ex c xs e => rw [hr] at q; exact q
      | ok p =>
        rw [hr] at q
        obtain ⟨b, hb, kb⟩ := q
        obtain ⟨d, e⟩ := p
        simp only at hb
        subst hb
        exact kb
    cases k with
    | true => exact ⟨fun wh pins s σ H Q I ⟨env, ow, Rs, es, q⟩ => (pw_and1 h.pt).run wh pins s σ H Q I (key σ H Q env ow Rs es q)⟩
    | false => exact ⟨fun wh pins s σ H Q I ⟨env, ow, Rs, es, q⟩ => (pw_or1 h.pt).run wh pins s σ H Q I (key σ H Q env ow Rs es q)⟩
  | _, _, .cons (e := e') (es := es) (a := a') (as := as) st' h' r, e, a, st, h => by
    have ih := bool_pw (k := k) (p := p) r e' a' st' h'
    have hm : muEs G.T (.cons a (.cons a' as)) = (muE G.T a || muEs G.T (.cons a' as)) := by rw [muEs]
    have key : ∀ σ H Q env ow Rs, ES G.R H Rs env σ ow → KR G.R W Rs (muEs G.T (.cons a (.cons a' as))) ow H σ (evB G.T G.call true k (.cons a (.cons a' as)) env) (fun p => ∃ b, p.1 = .bl b ∧ TK G.R Rs (muEs G.T (.cons a (.cons a' as))) ow H σ Q (b, p.2)) →
        rdT G W a σ H fun b H1 => if b = k then (∃ env ow Rs, ES G.R H1 Rs env σ ow ∧ KR G.R W Rs (muEs G.T (.cons a' as)) ow H1 σ (evB G.T G.call true k (.cons a' as) env) (fun p => ∃ b, p.1 = .bl b ∧ TK G.R Rs (muEs G.T (.cons a' as)) ow H1 σ Q (b, p.2))) else Q b H1 := fun σ H Q env ow Rs es q => by
      rw [evB] at q
      case x_3 => intro z; cases z
      rw [hm] at q
      refine ⟨env, ow, Rs, es, ((KR.test (F := fun b e => if b = k then evB G.T G.call true k (.cons a' as) e else .ok (.bl b, e)) q).le ma).imp fun q _ kq => ?_⟩
      intro H1 ow1 po1
      split at kq
      · rename_i hk
        rw [if_pos hk]
        exact ⟨q.2, ow1, Tm Rs [], po1.es, (kq.shift po1 ma mb).imp fun _ _ ⟨b, hb, kb⟩ => ⟨b, hb, kb.next po1 ma mb⟩⟩
      · rename_i hk
        rw [if_neg hk]
        obtain ⟨b, hb, kb⟩ := kq
        cases hb
        exact kb H1 ow1 (po1.le ma)
    cases k with
    | true =>
      refine ⟨fun wh pins s σ H Q I ⟨env, ow, Rs, es, q⟩ => (pw_and h.pt ih).run wh pins s σ H Q I ?_⟩
      obtain ⟨env, ow, Rs, es, q⟩ := key σ H Q env ow Rs es q
      refine ⟨env, ow, Rs, es, q.imp fun p _ kp H' ow' po => ?_⟩
      have z := kp H' ow' po
      obtain ⟨b, e⟩ := p
      cases b with
      | true => exact z
      | false => exact z
    | false =>
      refine ⟨fun wh pins s σ H Q I ⟨env, ow, Rs, es, q⟩ => (pw_or h.pt ih).run wh pins s σ H Q I ?_⟩
      obtain ⟨env, ow, Rs, es, q⟩ := key σ H Q env ow Rs es q
      refine ⟨env, ow, Rs, es, q.imp fun p _ kp H' ow' po => ?_⟩
      have z := kp H' ow' po
      obtain ⟨b, e⟩ := p
      cases b with
      | true => exact z
      | false => exact z
theorem s_bool {k : Bool} {p : Pos} {es : List Expr} {as : Es} (r : SEs G W X es as) : SE G W X (.BoolOp (kop k) es p) (.bool k as) := by
  have hm : muE G.T (.bool k as) = muEs G.T as := by rw [muE]
  cases r with
  | nil =>
    have no : ∀ m env, evX G.T G.call m (.bool k .nil) env = .no := fun m env => by rw [evX, evB]
    exact ⟨PEnone fun σ H Q ⟨env, ow, Rs, es, q⟩ => by rw [no] at q; exact q, PTnone fun σ H Q ⟨env, ow, Rs, es, q⟩ => by unfold evT at q; rw [no] at q; exact q, no_p fun _ => by unfold peek; rfl, no_s fun _ => by unfold smp; rfl⟩
  | @cons e es a as st h r =>
    refine ⟨PEimp (bool_pe r e a st h) fun σ H Q ⟨env, ow, Rs, es, q⟩ => ?_, PTimp (bool_pw r e a st h).pt fun σ H Q ⟨env, ow, Rs, es, q⟩ => ?_, no_p fun _ => by unfold peek; rfl, no_s fun _ => by unfold smp; rfl⟩
    · rw [evX, hm] at q
      exact ⟨env, ow, Rs, es, q⟩
    · unfold evT at q
      rw [evX, hm] at q
      refine ⟨env, ow, Rs, es, q.bind.imp fun p _ kp => ?_⟩
      split at kp
      · rename_i b hb
        exact ⟨b, hb, kp⟩
      · exact kp.elim

/-! ### not, if-else -/
theorem s_not (hK : X.K = G.R.K) {x : Expr} {p : Pos} {a : E} (h : SE G W X x a) : SE G W X (.UnaryOp .Not x p) (.not a) := by
  have hm : muE G.T (.not a) = muE G.T a := by rw [muE]
  refine ⟨PEimp (pe_notT h.pe) fun σ H Q ⟨env, ow, Rs, es, k⟩ => ?_, PTimp (pt_not h.pt) fun σ H Q ⟨env, ow, Rs, es, k⟩ => ?_, no_p fun _ => by unfold peek; rfl, no_s fun _ => by unfold smp; rfl⟩
  · rw [evX, hm] at k
    simp only [Bool.false_eq_true, if_false] at k
    refine ⟨env, ow, Rs, es, k.bind.imp fun p _ kp v H' ow' os po r => ?_⟩
    obtain ⟨x, hx, kx⟩ := kp.opt
    simp only [Option.map_eq_some_iff] at hx
    obtain ⟨b, hb, rfl⟩ := hx
    exact ⟨b, hK ▸ tru_of r hb, kx _ H' ow' [] po.nil RP.mkBl⟩
  · unfold evT at k
    rw [evX, hm] at k
    simp only [if_true] at k
    refine ⟨env, ow, Rs, es, ((KR.test (F := fun b e => Rr.ok (D.bl !b, e)) k.bind).imp fun q _ kq H' ow' po => ?_)⟩
    exact kq H' ow' po
/-- a if c else b as a test -/
theorem pt_ifExp {x y z : Expr} {p : Pos} {t t1 t2 : TT} (hc : PT X x t) (ha : PT X y t1) (hb : PT X z t2) : PT X (.IfExp x y z p) (fun σ H Q => t σ H fun k H1 => if k = true then t1 σ H1 Q else t2 σ H1 Q) := by
  refine ⟨fun pins s σ H Q I h => isTrue_IfExp (thn (hc.run pins s σ H _ I h) fun k s1 ⟨H1, I1, q1⟩ => ?_)⟩
  cases k with
  | true => exact ha.run pins s1 σ H1 Q I1 q1
  | false => exact hb.run pins s1 σ H1 Q I1 q1
theorem m3a {a b c : Bool} : a = true → (a || b || c) = true := fun z => by rw [z]; rfl
theorem m3b {a b c : Bool} : b = true → (a || b || c) = true := fun z => by rw [z]; cases a <;> rfl
theorem m3c {a b c : Bool} : c = true → (a || b || c) = true := fun z => by rw [z, Bool.or_true]
theorem s_ite {x y z : Expr} {p : Pos} {a b d : E} (h1 : SE G W X x a) (h2 : SE G W X y b) (h3 : SE G W X z d) : SE G W X (.IfExp x y z p) (.ite a b d) := by
  have hm : muE G.T (.ite a b d) = (muE G.T a || muE G.T b || muE G.T d) := by rw [muE]
  refine ⟨PEimp (pe_ifExp h1.pt h2.pe h3.pe) fun σ H Q ⟨env, ow, Rs, es, k⟩ => ?_, PTimp (pt_ifExp h1.pt h2.pt h3.pt) fun σ H Q ⟨env, ow, Rs, es, k⟩ => ?_, no_p fun _ => by unfold peek; rfl, no_s fun _ => by unfold smp; rfl⟩
  · rw [evX, hm] at k
    refine ⟨env, ow, Rs, es, ((KR.test (F := fun k e => if k then evX G.T G.call false b e else evX G.T G.call false d e) k).le m3a).imp fun q _ kq H1 ow1 po1 => ?_⟩
    obtain ⟨b', e⟩ := q
    cases b' with
    | true => exact nextE po1 kq m3a m3b
    | false => exact nextE po1 kq m3a m3c
  · have key : KR G.R W Rs (muE G.T a || muE G.T b || muE G.T d) ow H σ ((evX G.T G.call true a env).bind fun p => match p.1 with | .bl k => (fun (k : Bool) e => if k then evT G.T G.call b e else evT G.T G.call d e) k p.2 | _ => .no) (TK G.R Rs (muE G.T a || muE G.T b || muE G.T d) ow H σ Q) := by
      unfold evT at k
      rw [evX, hm] at k
      cases hr : evX G.T G.call true a env with
      | no => rw [hr] at k; exact k
      | ex c xs e => rw [hr] at k; exact k
      | ok p =>
        rw [hr] at k
        obtain ⟨v, e⟩ := p
        cases v
        case bl b' => cases b' <;> exact k
        all_goals exact k.elim
    refine ⟨env, ow, Rs, es, ((KR.test (F := fun (k : Bool) e => if k then evT G.T G.call b e else evT G.T G.call d e) key).le m3a).imp fun q _ kq H1 ow1 po1 => ?_⟩
    obtain ⟨b', e⟩ := q
    cases b' with
    | true => exact nextT po1 kq m3a m3b
    | false => exact nextT po1 kq m3a m3c
end
end VS
set_option Elab.async false
set_option linter.all false
set_option maxRecDepth 100000
set_option maxHeartbeats 2000000
/-! VSl: displays, calls, subscripts, attributes. -/
namespace VS
open PySem PySem.Spec PyProof.Rows L2
section
variable {G : Wd} {W : WX} {X : Cx} {c : Ck}
theorem s_tup (hK : X.K = G.R.K) {es : List Expr} {as : Es} {k : Nat} {p : Pos} (r : SEs G W X es as) : SE G W X (.Tuple es k p) (.tup as) := by
  have pe : PE X (.Tuple es k p) (rdE G W (.tup as)) := PEimp (pe_tup (pa_es r)) fun σ H Q ⟨env, ow, Rs, es, k⟩ => by
    rw [evX] at k
    have hm : muE G.T (.tup as) = muEs G.T as := by rw [muE]
    rw [hm] at k
    refine ⟨env, ow, Rs, es, k.bind.imp fun p _ kp vs H1 ow1 os1 po r => ?_⟩
    split at kp
    · rename_i hl
      refine ⟨by rw [r.length]; exact lenOk_line hl, fun q hq => ?_⟩
      have po0 := po.nil
      exact (NewR.of po0 kp).tup hq ((po.fzs es r).avoid fun a q => .inl (AvdTm.mp q))
    · exact kp.elim
  exact ⟨pe, pt_gen hK pe (fun _ => rfl) (fun env => by rw [evX, evX]; rfl), no_p fun _ => by unfold peek; rfl, no_s fun _ => by unfold smp; rfl⟩
theorem s_lst (hK : X.K = G.R.K) {es : List Expr} {as : Es} {p : Pos} (r : SEs G W X es as) : SE G W X (.List es p) (.lst as) := by
  have pe : PE X (.List es p) (rdE G W (.lst as)) := PEimp (pe_lst (pa_es r)) fun σ H Q ⟨env, ow, Rs, es, k⟩ => by
    rw [evX] at k
    have hm : muE G.T (.lst as) = muEs G.T as := by rw [muE]
    rw [hm] at k
    refine ⟨env, ow, Rs, es, k.bind.imp fun p _ kp vs H1 ow1 os1 po r => ?_⟩
    split at kp
    · rename_i hl
      refine ⟨by rw [r.length]; exact lenOk_line hl, fun q hq => ?_⟩
      have nm : q ∉ os1 := fun z => by
        obtain ⟨o, e, _⟩ := r.own q z
        rw [hq] at e; cases e
      refine kp (.ref q) (upd H1 q (.lst vs)) ow1 (q :: os1) (po.grow (Gr.new hq) (fun a ha => ?_) (List.nodup_cons.mpr ⟨nm, po.nd⟩)) ?_
      · rcases List.mem_cons.mp ha with z | z
        · subst z; exact .inr ⟨hq, by rw [upd_same]; simp⟩
        · exact .inl z
      · unfold RP
        simp only [if_true]
        refine ⟨q, vs, os1, rfl, rfl, upd_same, r.grow (Gr.new hq) fun a z => ?_⟩
        rcases z with z | z | z
        · exact .inl (.inl z)
        · exact .inl (.inr (.inl z))
        · rcases List.mem_cons.mp z with z | z
          · subst z; exact .inr hq
          · exact .inl (.inr (.inr z))
    · exact kp.elim
  exact ⟨pe, pt_gen hK pe (fun _ => rfl) (fun env => by rw [evX, evX]; rfl), no_p fun _ => by unfold peek; rfl, no_s fun _ => by unfold smp; rfl⟩

/-! ### calls -/
/-- the callee's promise, out of what the code says of the call -/
theorem callR_sp {Rs : Av} {mu : Bool} {ow ow2 : Own} {H H2 : Hp} {σ : L2.St} {env2 : VE} {f : Nat} {ds : List D} {vs : List V} {Q : VK} (po : Po G.R Rs mu ow H env2 σ ow2 [] H2)
    (k : KR G.R W Rs mu ow H σ (callR G.T G.call f ds env2) (EK G.R Rs mu ow H σ Q)) (r : RPs G.R H2 (Avd ow2 (Tm Rs [])) ds vs []) :
    ∃ fn, G.T.fns[f]? = some fn ∧ vs.length = fn.np ∧ spC G f fn.np fn.mu vs H2 Q (fun cls d H' => W cls d σ H') := by
  unfold callR at k
  split at k
  · rename_i fn hf
    split at k
    · exact k.elim
    · rename_i hc
      simp only [Bool.or_eq_true, Bool.not_eq_true', decide_eq_true_eq, not_or] at hc
      obtain ⟨h1, h2, h3⟩ := hc
      have hmu : fn.mu = false := by cases h : fn.mu <;> simp [h] at h1 ⊢
      have hfz : D.allFz ds = true := by cases h : D.allFz ds <;> simp [h] at h2 ⊢
      have hnp : ds.length = fn.np := by
        rcases Nat.decEq ds.length fn.np with z | z
        · exact absurd z h3
        · exact z
      have hlen : vs.length = fn.np := by rw [r.length, hnp]
      refine ⟨fn, hf, hlen, ds, fun _ => [], Avd ow2 (Tm Rs []), by unfold argsOk; rw [hmu]; exact hfz, hlen, ?_, ?_⟩
      · refine ⟨by simp [r.length], fun i d e => ?_, fun _ _ => rfl, fun _ => List.nodup_nil, fun i j a h => (by simp at h), fun a _ q => ?_, fun a q => ?_⟩
        · have e' : ds[i]? = some d := by
            rw [List.getElem?_map] at e
            cases hd : ds[i]? with
            | none => rw [hd] at e; cases e
            | some d' => rw [hd] at e; simpa using e
          obtain ⟨v, o, hv, rr, sl⟩ := r.get e'
          have ho : o = [] := List.eq_nil_of_sublist_nil sl
          subst ho
          refine ⟨v, by rw [List.getElem?_map, hv]; rfl, rr.avoid fun a q => .inl ?_⟩
          rcases q with ⟨j, q⟩ | q
          · cases q
          · exact q
        · obtain ⟨j, q⟩ := q; cases q
        · rcases q with q | q
          · obtain ⟨o, e, _⟩ := po.es.ow_some q
            rw [e]; simp
          · exact po.es.rt a q
      · have grow : ∀ {H' : Hp} {env' : VE} {ow' : Own} {os : List Addr}, Po G.R (Avd ow2 (Tm Rs [])) fn.mu (fun _ => []) H2 env' (vs.map some) ow' os H' → Gr H2 H' := fun p a o e => p.fr a o e fun z => by rw [hmu] at z; cases z
        split
        · rename_i d fin hd
          rw [hd] at k
          intro v H' ow' os env' p _ rr
          refine k v H' ow2 os (po.grow (grow p) (fun a ha => .inr ?_) p.nd) (rr.avoid fun a q => .inl ?_)
          · refine ⟨?_, p.es.rt a (.inr ha)⟩
            rcases p.new a (.inr ha) with ⟨j, z⟩ | z
            · cases z
            · exact z
          · rcases q with q | q | q
            · exact .inr (.inl (.inl q))
            · exact .inr (.inl (.inr (.inl q)))
            · exact .inr (.inr q)
        · rename_i c xs hd
          rw [hd] at k
          intro H' dd env' ow' p x
          exact k H' ow2 dd (po.grow (grow p) (by simp) (by simp)) (x.less fun a q => by
            rcases q with q | q
            · exact .inr (.inl q)
            · exact .inr (.inr (.inl q)))
        · rename_i hd
          rw [hd] at k
          exact k
  · exact k.elim

/-- the callee runs -/
theorem run_at {A : Around} {fd : FuncData} {ps : List Str} {sp : Sp} {fa : Addr} {us us' : List Value} {kw : List (Str × Value)} {vs : List V} {k : Nat} {pins : List (Addr × Obj)} {s : Shared} {σ : L2.St} {H : Hp} {Q : VK}
    (F : FnOk X.prog X.w X.K X.mg X.base (L2.CX X.prog X.w) k fa fd ps sp) (hr : Room k A) (e0 : Env0 X.prog X.w X.K X.mg X.base A X.stack s H) (tk : Takes X W) (I : Inv X pins σ H s) (b : BindsTo s fd ⟨us, kw⟩ (ps.zip us')) (r : Vals vs us')
    (h : sp vs H Q (fun cls d H' => W cls d σ H')) : wpAny (model X.prog X.w) A (call (.ref fa) us kw) (EP X pins σ Q) X.xe s := by
  refine wpAny_call (codeAny_mono (F.run A X.stack s H ⟨us, kw⟩ us' vs Q _ hr e0 b r h) fun r s' hq => ?_)
  cases r with
  | error e => exact passAt tk σ pins H s e s' I hq
  | ok fl =>
    cases fl with
    | ret u => exact I.after hq
    | next => exact False.elim hq
    | brk => exact False.elim hq
    | cont => exact False.elim hq

theorem findS_mem {n : Nat} {ks : List Str} : ∀ {l : List Shp} {s : Shp}, findS n ks l = some s → s ∈ l ∧ s.n = n ∧ s.ks = ks
  | [], _, h => by cases h
  | t :: r, s, h => by
    unfold findS at h
    split at h
    · rename_i hc
      cases h
      exact ⟨List.mem_cons_self, hc⟩
    · obtain ⟨h1, h2⟩ := findS_mem h
      exact ⟨List.mem_cons_of_mem _ h1, h2⟩
theorem pick_triv {α : Type} (z : α) : ∀ (src : List Srs) (k : Nat) (ud us ws : List α), triv src k = true → us.length = k + src.length → pickX z src ud us ws = us.drop k
  | [], k, ud, us, ws, _, hl => by
    unfold pickX
    rw [List.drop_of_length_le (by simp at hl; omega)]
  | .pos j :: r, k, ud, us, ws, ht, hl => by
    unfold triv at ht
    simp only [Bool.and_eq_true, decide_eq_true_eq] at ht
    obtain ⟨rfl, ht⟩ := ht
    simp only [List.length_cons] at hl
    unfold pickX
    rw [pick_triv z r (j + 1) ud.tail us ws ht (by omega)]
    have hj : j < us.length := by omega
    rw [List.drop_eq_getElem_cons hj, List.getD_eq_getElem?_getD, List.getElem?_eq_getElem hj]
    rfl
  | .kw j :: r, k, ud, us, ws, ht, hl => by unfold triv at ht; cases ht
  | .dfl j :: r, k, ud, us, ws, ht, hl => by unfold triv at ht; cases ht
/-- a positional call binds the values in their order -/
theorem bind_triv {R : Rt} {fd : FuncData} {ps : List Str} {fn : FnI} {s₀ : Shared} {us : List Value} (hs : ∀ s ∈ fn.shapes, ∃ vd ud, ShOk R fd ps s vd ud) (ht : hasTriv fn us.length = true) (hK : R.K.In s₀.heap) : BindsTo s₀ fd ⟨us, []⟩ (ps.zip us) := by
  unfold hasTriv at ht
  split at ht
  · rename_i s hf
    obtain ⟨hm, hn, hk⟩ := findS_mem hf
    simp only [Bool.and_eq_true, decide_eq_true_eq] at ht
    obtain ⟨vd, ud, S⟩ := hs s hm
    have b := S.bind s₀ us [] hK hn.symm (by rw [hk]; rfl)
    rw [hk, pick_triv _ _ 0 _ _ _ ht.1 (by omega)] at b
    exact b
  · cases ht
end
end VS
set_option Elab.async false
set_option linter.all false
set_option maxRecDepth 100000
set_option maxHeartbeats 2000000
/-! VSm: subscripts, attributes. -/
namespace VS
open PySem PySem.Spec PyProof.Rows L2
section
variable {R : Rt} {H : Hp} {A : Av}
theorem item_of {d x : D} {v : V} {os : List Addr} {xs : List D} {k : Int} (r : RP R H A d v os) (hi : items d = some xs) (hx : ixD xs k = some x) :
    ∃ p vs w os', v = .ref p ∧ (SqL R.K H p vs ∨ SqT R.K H p vs) ∧ atI vs k = some w ∧ RP R H A x w os' ∧ os'.Sublist os ∧ (∀ ys, d = .lst true ys → ∀ vs', H p = some (.lst vs') → vs' = vs) := by
  have get : ∀ {vs : List V} {os' : List Addr}, RPs R H A xs vs os' → ∃ w o, atI vs k = some w ∧ RP R H A x w o ∧ o.Sublist os' := fun {vs os'} rr => by
    unfold ixD atI at hx
    obtain ⟨j, hj, hx⟩ := Option.bind_eq_some_iff.mp hx
    obtain ⟨w, o, hw, r', sl⟩ := rr.get hx
    refine ⟨w, o, ?_, r', sl⟩
    unfold atI
    rw [rr.length, hj]
    exact hw
  unfold items at hi
  split at hi
  · cases hi
    obtain ⟨e, a, vs, rfl, h, rr⟩ := r.tupD
    subst e
    obtain ⟨w, o, hw, r', sl⟩ := get rr
    exact ⟨a, vs, w, o, rfl, .inr h, hw, r', sl, fun ys z => by cases z⟩
  · cases hi
    rename_i ob
    cases ob with
    | true =>
      unfold RP at r
      simp only [if_true] at r
      obtain ⟨a, vs, os', rfl, rfl, h, rr⟩ := r
      obtain ⟨w, o, hw, r', sl⟩ := get rr
      exact ⟨a, vs, w, o, rfl, .inl (SqL.of h), hw, r', sl.trans (List.sublist_cons_self _ _), fun ys _ vs' z => by rw [h] at z; cases z; rfl⟩
    | false =>
      obtain ⟨a, vs, os', rfl, h, rr, s2⟩ := r.lstD
      obtain ⟨w, o, hw, r', sl⟩ := get rr
      exact ⟨a, vs, w, o, rfl, .inl h, hw, r', sl.trans s2, fun ys z => by cases z⟩
  · cases hi
theorem ix_of {K : PySem.W.Frag} {p : Addr} {vs : List V} {k : Int} {w : V} {Q : VK} (h : SqL K H p vs ∨ SqT K H p vs) (hw : atI vs k = some w) (q : Q w H) : rIx K (.ref p) (.int k) H Q := by
  rcases h with h | h
  · exact .inl ⟨p, vs, k, w, rfl, rfl, h, hw, q⟩
  · exact .inr (.inl ⟨p, vs, k, w, rfl, rfl, h, hw, q⟩)
end
section
variable {R : Rt} {H : Hp} {A : Av}
theorem RP.objD {o : Bool} {k : Nat} {ds : List D} {v : V} {os : List Addr} (r : RP R H A (.obj o k ds) v os) : ∃ p dx fs, v = .ref p ∧ H p = some (.ins (R.ca k) dx fs) ∧ k < R.nc := by
  unfold RP at r
  cases o with
  | true =>
    simp only [if_true] at r
    obtain ⟨a, dx, vs, os', rfl, _, e, ⟨_, hc⟩, _⟩ := r
    exact ⟨a, dx, _, rfl, e, hc⟩
  | false =>
    simp only [Bool.false_eq_true, if_false] at r
    obtain ⟨_, a, dx, vs, rfl, _, e, ⟨_, hc⟩, _⟩ := r
    exact ⟨a, dx, _, rfl, e, hc⟩
theorem RP.objF {o : Bool} {k : Nat} {ds : List D} {v : V} {os : List Addr} (r : RP R H A (.obj o k ds) v os) : ∃ p dx vs os', v = .ref p ∧ H p = some (.ins (R.ca k) dx ((R.fl k).zip vs)) ∧ vs.length ≤ (R.fl k).length ∧ k < R.nc ∧ RPs R H A ds vs os' := by
  unfold RP at r
  cases o with
  | true =>
    simp only [if_true] at r
    obtain ⟨a, dx, vs, os', rfl, _, e, ⟨hl, hc⟩, rr⟩ := r
    exact ⟨a, dx, vs, os', rfl, e, hl, hc, rr⟩
  | false =>
    simp only [Bool.false_eq_true, if_false] at r
    obtain ⟨_, a, dx, vs, rfl, _, e, ⟨hl, hc⟩, rr⟩ := r
    exact ⟨a, dx, vs, [], rfl, e, hl, hc, rr⟩
end
section
variable {G : Wd} {W : WX} {X : Cx} {c : Ck}
theorem plain_ix {b : Expr} (h : isSlc b = false) : PlainIx b := fun o i => by
  cases b <;> first | rfl | (simp [isSlc] at h)
theorem py_ix {b : Expr} (h : isSlc b = false) (o i : Value) : subscripted b true o i = runValue (.builtin "lifetime.subscript" ⟨[o, i], []⟩) := by
  cases b <;> first | rfl | (simp [isSlc] at h)
theorem callR_fz {Rs : Av} {mu : Bool} {ow : Own} {H : Hp} {σ : L2.St} {env2 : VE} {f : Nat} {ds : List D} {K : D × VE → Prop} (k : KR G.R W Rs mu ow H σ (callR G.T G.call f ds env2) K) : D.allFz ds = true := by
  unfold callR at k
  split at k
  · split at k
    · exact k.elim
    · rename_i hc
      simp only [Bool.or_eq_true, Bool.not_eq_true', decide_eq_true_eq, not_or] at hc
      cases h : D.allFz ds <;> simp [h] at hc ⊢
  · exact k.elim
theorem pe_subO {a b : Expr} {ta tb : TE} {pos : Pos} (g : Good c G W X) (hot : c.hot = false) (ha : PE X a ta) (hb : PE X b tb) (hs : isSlc b = false) :
    PE X (.Subscript a b pos) (fun σ H Q => ta σ H fun x H1 => tb σ H1 fun y H2 => rIx X.K x y H2 Q ∨ ∃ p k dx fs cl f fn, x = .ref p ∧ H2 p = some (.ins (G.R.ca k) dx fs) ∧ G.T.cls[k]? = some cl ∧ cl.ex = false ∧ cl.item = some f ∧ G.T.fns[f]? = some fn ∧ hasTriv fn 2 = true ∧ 2 = fn.np ∧
      spC G f fn.np fn.mu [x, y] H2 Q (fun cls d H' => W cls d σ H')) := by
  obtain ⟨hc, hr, tk, hx, wd⟩ := g.calm hot
  refine ⟨fun pins s σ H Q I h => ?_⟩
  refine Subscript_ (thn (ha.run pins s σ H _ I h) fun u s1 ⟨x, H1, I1, r1, q1⟩ => thn (hb.run pins s1 σ H1 _ I1 q1) fun w s2 ⟨y, H2, I2, r2, q2⟩ => ?_)
  rcases q2 with q2 | ⟨p, k, dx, fs, cl, f, fn, rfl, ea, hcl, hex, hit, hfn, htr, hnp, q2⟩
  · exact ix_seq a b pins s2 σ H2 x y u w Q I2 r1 r2 q2 (plain_ix hs _ _)
  · cases r1
    obtain ⟨i1, i2, i3⟩ := (wd.cl k cl hcl).item hex f hit
    obtain ⟨fd, ps, hps, F, hsh⟩ := (wd.fn f fn hfn).ok
    obtain ⟨m, F0⟩ := I2.fr
    obtain ⟨mA, O, _⟩ := ins_get I2.hok ea
    obtain ⟨od, J, _⟩ := O.look
    rw [← g.K] at i1 i2 i3 F
    refine PySem.W.sub_K F0 I2.ok.mod.kin J i1 i2 i3 ?_ (py_ix hs _ _)
    have bnd : BindsTo s2 fd ⟨[.ref p, w], []⟩ (ps.zip [.ref p, w]) := bind_triv hsh htr (g.K ▸ I2.kIn)
    exact run_at F (hr.mono (by omega)).in1 I2.env0.in1 tk I2 bnd (.cons (show L2.RelV (.ref p) (.ref p) from rfl) (.cons r2 .nil)) q2
theorem fz_two {d k : D} (h : D.allFz [d, k] = true) : d.isFz = true ∧ k.isFz = true := by
  unfold D.allFz D.allFz D.allFz at h
  simpa using h
theorem s_sub (g : Good c G W X) (hot : c.hot = false) {x y : Expr} {p : Pos} {a b : E} (hs : isSlc y = false) (h1 : SE G W X x a) (h2 : SE G W X y b) : SE G W X (.Subscript x y p) (.sub a b) := by
  have pk : ∀ env d, peek (.sub a b) env = some d → ∃ d0 k xs, peek a env = some d0 ∧ smp b env = some k ∧ items d0 = some xs ∧ ixD xs k = some d := fun env d h => by
    unfold peek at h
    simp only [Option.bind_eq_some_iff] at h
    obtain ⟨d0, h1, k, h2, xs, h3, h4⟩ := h
    exact ⟨d0, k, xs, h1, h2, h3, h4⟩
  have pA : PE X (.Subscript x y p) (fun σ H Q => rdP G a σ H fun x H1 => rdS G b σ H1 fun y H2 => rIx X.K x y H2 Q) := pe_ix ix_seq h1.pp h2.ps (plain_ix hs)
  -- an item in its place
  have at_ : ∀ {σ H env ow Rs d} {Q : VK}, ES G.R H Rs env σ ow → peek (.sub a b) env = some d → (∀ v os, RP G.R H (Avd ow Rs) d v os → (∀ r, rootE a = some r → ∀ z ∈ os, z ∈ ow r) → PAt H σ env (.sub a b) v → Q v H) →
      rdP G a σ H fun x H1 => rdS G b σ H1 fun y H2 => rIx X.K x y H2 Q := fun {σ H env ow Rs d Q} es hd q => by
    obtain ⟨d0, k, xs, e1, e2, e3, e4⟩ := pk env d hd
    refine ⟨env, ow, Rs, d0, es, e1, fun v os r hr pt => ⟨env, ow, Rs, k, es, e2, ?_⟩⟩
    obtain ⟨pa, vs, w, os', rfl, hq, hw, r', sl, one⟩ := item_of r e3 e4
    refine g.K ▸ ix_of hq hw (q w os' r' (fun r hrr z hz => hr r hrr z (sl.subset hz)) ?_)
    unfold PAt
    refine ⟨.ref pa, k, pt, e2, fun ys p vs' hy hp hh => ?_⟩
    cases hp
    rw [e1] at hy
    cases hy
    rw [one _ rfl vs' hh]
    exact hw
  have pp : PE X (.Subscript x y p) (rdP G (.sub a b)) := PEimp pA fun σ H Q ⟨env, ow, Rs, d, es, hd, q⟩ => at_ es hd fun v os r hr pt => q v os r (fun r' hr' => hr r' (by unfold rootE at hr'; exact hr')) pt
  have pB : PE X (.Subscript x y p) (fun σ H Q => ∃ env ow Rs, ES G.R H Rs env σ ow ∧ KR G.R W Rs (muE G.T a || muE G.T b) ow H σ ((evX G.T G.call false a env).bind fun p => (evX G.T G.call false b p.2).bind fun q => subD G.T G.call p.1 q.1 q.2) (EK G.R Rs (muE G.T a || muE G.T b) ow H σ Q)) := by
    obtain ⟨hc, hr, tk, hx, wd⟩ := g.calm hot
    refine PEimp (pe_subO g hot h1.pe h2.pe hs) fun σ H Q ⟨env, ow, Rs, es, k⟩ => ?_
    refine ⟨env, ow, Rs, es, (k.bind.le ma).imp fun p _ kp v H1 ow1 os1 po1 r1 => ⟨p.2, ow1, Tm Rs os1, po1.es, (kp.bind.shift po1 ma mb).imp fun q _ kq w H2 ow2 os2 po2 r2 => ?_⟩⟩
    have r1' := po2.keep po1.es r1 fun a ha => .inr ha
    have lo : ∀ {os : List Addr}, (∀ z ∈ os, z ∈ os1) → ∀ a, Avd ow2 (Tm Rs os) a → Avd ow2 (Tm (Tm Rs os1) os2) a := fun {os} hos a q => by
      rcases q with q | q | q
      · exact .inl q
      · exact .inr (.inl (.inl q))
      · exact .inr (.inl (.inr (hos _ q)))
    unfold subD at kq
    split at kq
    · rename_i o k ds hd
      split at kq
      · rename_i cl hcl
        split at kq
        · rename_i f hf
          unfold callP at kq
          split at kq
          · rename_i fn hfn
            split at kq
            · rename_i htr
              have fz := fz_two (callR_fz kq)
              have z1 := r1'.fz_nil fz.1
              have z2 := r2.fz_nil fz.2
              subst z1 z2
              have po := Po.seq (os := []) po1 po2 (by simp) (by simp)
              have rs : RPs G.R H2 (Avd ow2 (Tm Rs [])) [p.1, q.1] [v, w] [] := RPs.cons (o1 := []) (o2 := []) (r1'.avoid fun a z => .inl (lo (by simp) a z)) (RPs.one (r2.avoid fun a z => .inl (lo (by simp) a z)))
              obtain ⟨fn', hfn', hlen, sp⟩ := callR_sp po kq rs
              rw [hfn] at hfn'; cases hfn'
              have ro := r1'
              rw [hd] at ro
              obtain ⟨pa, dx, fs, rfl, ea, hk⟩ := ro.objD
              exact .inr ⟨pa, k, dx, fs, cl, f, fn, rfl, ea, hcl, (wd.cl k cl hcl).nc.mpr hk, hf, hfn, htr, hlen, sp⟩
            · exact kq.elim
          · exact kq.elim
        · exact kq.elim
      · exact kq.elim
    · split at kq
      · rename_i i hi
        rw [hi] at r2
        have hw := r2.int
        subst hw
        obtain ⟨z, hz, kz⟩ := kq.opt
        obtain ⟨xs, hxs, hz⟩ := Option.bind_eq_some_iff.mp hz
        obtain ⟨x, hx, rfl⟩ := Option.map_eq_some_iff.mp hz
        obtain ⟨pa, vs, w, os', rfl, hq, hw, r', sl, _⟩ := item_of r1' hxs hx
        refine .inl (g.K ▸ ix_of hq hw ?_)
        exact kz w H2 ow2 os' (Po.seq po1 po2 (fun a ha => .inl (sl.subset ha)) (po1.nd.sublist sl)) (r'.avoid fun a q => .inl (lo (fun z hz => sl.subset hz) a q))
      · exact kq.elim
  have hm : muE G.T (.sub a b) = (muE G.T a || muE G.T b) := by rw [muE]
  refine ⟨PEimp (PEor pA pB) fun σ H Q ⟨env, ow, Rs, es, k⟩ => ?_, pt_of (t := fun σ H Q => (rdP G a σ H fun x H1 => rdS G b σ H1 fun y H2 => rIx X.K x y H2 Q) ∨ (∃ env ow Rs, ES G.R H Rs env σ ow ∧ KR G.R W Rs (muE G.T a || muE G.T b) ow H σ ((evX G.T G.call false a env).bind fun p => (evX G.T G.call false b p.2).bind fun q => subD G.T G.call p.1 q.1 q.2) (EK G.R Rs (muE G.T a || muE G.T b) ow H σ Q))) g.K (PEor pA pB) (fun _ => rfl) (fun σ H Q ⟨env, ow, Rs, es, k⟩ => ?_) (fun σ H Q Q' i q => ?_), pp, PEimp pA fun σ H Q ⟨env, ow, Rs, k, es, hk, q⟩ => ?_⟩
  · rw [evX, hm] at k
    have k : KR G.R W Rs (muE G.T a || muE G.T b) ow H σ (match peek (.sub a b) env with
      | some d => if d.isFz then .ok (d, env) else if false then .ok (d, env) else optR ((frzRoot a env).map fun e => (d.fz, e))
      | none => (evX G.T G.call false a env).bind fun p => (evX G.T G.call false b p.2).bind fun q => subD G.T G.call p.1 q.1 q.2) (EK G.R Rs (muE G.T a || muE G.T b) ow H σ Q) := k
    split at k
    · rename_i d hd
      refine .inl (at_ es hd fun v os r hr _ => ?_)
      split at k
      · rename_i hf
        have z := r.fz_nil hf
        subst z
        exact k v H ow [] (Po.refl es) (r.avoid fun a q => .inl (AvdTm.mp q))
      · simp only [Bool.false_eq_true, if_false] at k
        obtain ⟨z, hz, kz⟩ := k.opt
        obtain ⟨e, he, rfl⟩ := Option.map_eq_some_iff.mp hz
        unfold frzRoot at he
        obtain ⟨i, hi, he⟩ := Option.bind_eq_some_iff.mp he
        obtain ⟨d1, hd1, rfl⟩ := Option.map_eq_some_iff.mp he
        obtain ⟨v1, hv1, r1, p1⟩ := es.fzSlot hd1
        refine kz v H _ [] p1 (r.freeze (fun a q => .inl ?_) fun a ha q => ?_)
        · rcases q with q | q
          · rcases Ow_setO.mp q with z | ⟨j, _, z⟩
            · cases z
            · exact .inl ⟨j, z⟩
          · exact .inr (Tm.nil.mp q)
        · have ha' := hr i hi a ha
          rcases q with q | q
          · rcases Ow_setO.mp q with z | ⟨j, hj, z⟩
            · cases z
            · exact hj (es.dj j i a z ha')
          · exact es.rs a (Tm.nil.mp q) ⟨i, ha'⟩
    · exact .inr ⟨env, ow, Rs, es, k⟩
  · unfold evT at k
    rw [evX, hm] at k
    have k := k.tru
    have k : KR G.R W Rs (muE G.T a || muE G.T b) ow H σ (match peek (.sub a b) env with
      | some d => if d.isFz then .ok (d, env) else .ok (d, env)
      | none => (evX G.T G.call false a env).bind fun p => (evX G.T G.call false b p.2).bind fun q => subD G.T G.call p.1 q.1 q.2) (fun p => ∃ b', truth p.1 = some b' ∧ TK G.R Rs (muE G.T a || muE G.T b) ow H σ Q (b', p.2)) := k
    split at k
    · rename_i d hd
      refine .inl (at_ es hd fun v os r hr _ => ?_)
      have k : ∃ b', truth d = some b' ∧ TK G.R Rs (muE G.T a || muE G.T b) ow H σ Q (b', env) := by
        split at k <;> exact k
      obtain ⟨b', hb, kb⟩ := k
      exact ⟨_, d, os, b', r, hb, kb H ow (Po.refl es)⟩
    · refine .inr ⟨env, ow, Rs, es, k.imp fun p _ ⟨b', hb, kb⟩ v H' ow' os po r => ⟨_, p.1, os, b', r, hb, kb H' ow' po.nil⟩⟩
  · rcases q with q | ⟨env, ow, Rs, es, k⟩
    · refine .inl ?_
      obtain ⟨env, ow, Rs, d, es, hd, q⟩ := q
      refine ⟨env, ow, Rs, d, es, hd, fun v os r hr pt => ?_⟩
      obtain ⟨env, ow, Rs, k, es, hk, q⟩ := q v os r hr pt
      refine ⟨env, ow, Rs, k, es, hk, ?_⟩
      rcases q with ⟨p, xs, i', v', h1, h2, h3, h4, q⟩ | ⟨p, xs, i', v', h1, h2, h3, h4, q⟩ | ⟨z, i', c', h1, h2, h3, h4, q⟩
      · exact .inl ⟨p, xs, i', v', h1, h2, h3, h4, i _ _ q⟩
      · exact .inr (.inl ⟨p, xs, i', v', h1, h2, h3, h4, i _ _ q⟩)
      · exact .inr (.inr ⟨z, i', c', h1, h2, h3, h4, i _ _ q⟩)
    · exact .inr ⟨env, ow, Rs, es, k.imp fun p _ kp v H' ow' os po r => i _ _ (kp v H' ow' os po r)⟩
  · unfold smp at hk
    simp only [Option.bind_eq_some_iff] at hk
    obtain ⟨d0, e1, k0, e2, xs, e3, e4⟩ := hk
    split at e4 <;> cases e4
    rename_i e4
    refine at_ es (d := .int k) (by unfold peek; simp only [Option.bind_eq_some_iff]; exact ⟨d0, e1, k0, e2, xs, e3, e4⟩) fun v os r hr _ => ?_
    rw [r.int]; exact q
end
end VS
set_option Elab.async false
set_option linter.all false
set_option maxRecDepth 100000
set_option maxHeartbeats 2000000
/-! VSn: attributes, built-in functions, methods of lists. -/
namespace VS
open PySem PySem.Spec PyProof.Rows L2
theorem base_ok {e : Expr} {f : Str} {env : Env} {w : Sem Value} (h : noSup e = true) : attributeBase e f env w = w := by
  unfold attributeBase
  split
  · rename_i id p pos
    simp [noSup] at h
  · rfl
theorem idx_lookup {α : Type} {f : Str} : ∀ {fl : List Str} {vs : List α} {j : Nat} {w : α}, idxF f fl = some j → vs[j]? = some w → (fl.zip vs).lookup f = some w
  | [], _, _, _, h, _ => by simp [idxF] at h
  | y :: r, vs, j, w, h, hw => by
    unfold idxF at h
    cases vs with
    | nil => simp at hw
    | cons v vs =>
      split at h
      · rename_i e
        cases h
        subst e
        simp at hw
        subst hw
        simp [List.lookup]
      · rename_i e
        obtain ⟨j', hj, rfl⟩ := Option.map_eq_some_iff.mp h
        have hne : (f == y) = false := beq_eq_false_iff_ne.mpr e
        rw [List.zip_cons_cons, List.lookup_cons, hne]
        exact idx_lookup hj (by simpa using hw)
theorem idx_mem {f : Str} : ∀ {fl : List Str} {j : Nat}, idxF f fl = some j → f ∈ fl
  | [], _, h => by simp [idxF] at h
  | y :: r, j, h => by
    unfold idxF at h
    split at h
    · rename_i e; subst e; exact List.mem_cons_self
    · obtain ⟨j', hj, rfl⟩ := Option.map_eq_some_iff.mp h
      exact List.mem_cons_of_mem _ (idx_mem hj)
section
variable {G : Wd} {W : WX} {X : Cx} {c : Ck}
theorem pe_attrO {e : Expr} {f : Str} {ta : TE} {pos : Pos} (g : Good c G W X) (hot : c.hot = false) (ha : PE X e ta) (hn : noSup e = true) :
    PE X (.Attribute e f pos) (fun σ H Q => ta σ H fun x H1 => (∃ p k dx fs v cl, x = .ref p ∧ H1 p = some (.ins (G.R.ca k) dx fs) ∧ G.T.cls[k]? = some cl ∧ k < G.R.nc ∧ f ∈ cl.fl ∧ fs.lookup f = some v ∧ Q v H1) ∨
      ∃ p k dx fs cl m fn, x = .ref p ∧ H1 p = some (.ins (G.R.ca k) dx fs) ∧ G.T.cls[k]? = some cl ∧ k < G.R.nc ∧ findF f cl.props = some m ∧ G.T.fns[m]? = some fn ∧ hasTriv fn 1 = true ∧ 1 = fn.np ∧ spC G m fn.np fn.mu [x] H1 Q (fun _ _ _ => False)) := by
  obtain ⟨hc, hr, tk, hx, wd⟩ := g.calm hot
  refine ⟨fun pins s σ H Q I h => attr_of (base_ok hn) (thn (ha.run pins s σ H _ I h) fun u s1 ⟨x, H1, I1, rx, q1⟩ => ?_)⟩
  rcases q1 with ⟨p, k, dx, fs, v, cl, rfl, ea, hcl, hk, hf, hl, q⟩ | ⟨p, k, dx, fs, cl, m, fn, rfl, ea, hcl, hk, hf, hfn, htr, hnp, sp⟩
  · cases rx
    have hex := (wd.cl k cl hcl).nc.mpr hk
    exact getattr_ok I1 ea (g.K ▸ (wd.cls k hk).cls) (g.K ▸ (wd.cl k cl hcl).att hex f hf) hl fun u' s2 I2 ru => ⟨v, H1, I2, ru, q⟩
  · cases rx
    have hex := (wd.cl k cl hcl).nc.mpr hk
    obtain ⟨pp, hp⟩ := (wd.cl k cl hcl).prop hex f m hf
    obtain ⟨fd, ps, hps, F, hsh⟩ := (wd.fn m fn hfn).ok
    rw [← g.K] at hp F
    refine getprop_ok (ds := []) (dvs := []) I1 ea (g.K ▸ (wd.cls k hk).cls) hp F (hr.mono (by omega)) (fun s0 us hK hl => ?_) .nil (fun pins σ H s e s' I c => ?_) sp
    · rw [List.append_nil] at hl ⊢
      have : us.length = 1 := by rw [hl, hps, ← hnp]
      exact bind_triv hsh (by rw [this]; exact htr) (g.K ▸ hK)
    · obtain ⟨_, _, _, _, _, _, _, _, _, _, _, _, h⟩ := c
      exact h
theorem KR.ok_only {α : Type} {Rs : Av} {mu : Bool} {ow : Own} {H : Hp} {σ : L2.St} {r : Rr α} {K : α → Prop} (k : KR G.R W Rs mu ow H σ (okOnly r) K) : KR G.R (fun _ _ _ _ => False) Rs mu ow H σ r K := by
  cases r with
  | ok a => exact k
  | ex c xs e => exact False.elim k
  | no => exact k
theorem s_attr (g : Good c G W X) (hot : c.hot = false) {x : Expr} {f : Str} {p : Pos} {a : E} (hn : noSup x = true) (h : SE G W X x a) : SE G W X (.Attribute x f p) (.attr a f) := by
  obtain ⟨hc, hr, tk, hx, wd⟩ := g.calm hot
  have hm : muE G.T (.attr a f) = muE G.T a := by rw [muE]
  have pe : PE X (.Attribute x f p) (rdE G W (.attr a f)) := PEimp (pe_attrO g hot h.pv hn) fun σ H Q ⟨env, ow, Rs, es, k⟩ => by
    rw [evX, hm] at k
    refine ⟨env, ow, Rs, es, k.bind.imp fun p _ kp v H1 ow1 os1 os' po r _ => ?_⟩
    have po0 := po.nil
    unfold attrD at kp
    split at kp
    · rename_i o k ds hd
      rw [hd] at r
      split at kp
      · rename_i cl hcl
        obtain ⟨pa, dx, vs, os2, rfl, ea, hl, hk, rr⟩ := r.objF
        split at kp
        · rename_i j hj
          refine .inl ?_
          split at kp
          · rename_i d hd2
            obtain ⟨w, o2, hw, rw', sl⟩ := rr.get hd2
            split at kp
            · rename_i hf
              have z := rw'.fz_nil hf
              subst z
              have hfl := (wd.cl k cl hcl).fl
              exact ⟨pa, k, dx, _, w, cl, rfl, ea, hcl, hk, idx_mem hj, idx_lookup (by rw [hfl]; exact hj) hw, kp w H1 ow1 [] po0 (rw'.avoid fun a q => .inl (q.elim .inl fun q => .inr (.inl (Tm.nil.mp q))))⟩
            · exact kp.elim
          · exact kp.elim
        · split at kp
          · rename_i m hmm
            split at kp
            · have kp := KR.ok_only kp
              unfold callP at kp
              split at kp
              · rename_i fn hfn
                split at kp
                · rename_i htr
                  have fz := callR_fz kp
                  have fz1 : p.1.isFz = true := by
                    unfold D.allFz at fz
                    simp only [Bool.and_eq_true] at fz
                    exact fz.1
                  have z : os' = [] := by rw [hd] at fz1; exact r.fz_nil fz1
                  subst z
                  obtain ⟨fn', hfn', hlen, sp⟩ := callR_sp po0 kp (RPs.one (by rw [hd]; exact r.avoid fun a q => .inl (q.elim .inl fun q => .inr (.inl (Tm.nil.mp q)))))
                  rw [hfn] at hfn'; cases hfn'
                  exact .inr ⟨pa, k, dx, _, cl, m, fn, rfl, ea, hcl, hk, hmm, hfn, htr, hlen, sp⟩
                · exact kp.elim
              · exact kp.elim
            · exact kp.elim
          · exact kp.elim
      · exact kp.elim
    · exact kp.elim
  exact ⟨pe, pt_gen g.K pe (fun _ => rfl) (fun env => by rw [evX, evX]; rfl), no_p fun _ => by unfold peek; rfl, no_s fun _ => by unfold smp; rfl⟩

/-! ### built-in functions -/
theorem blt_boot (b : Blt) (h : b ≠ .gcd) : bootBuiltins (bltN b) = some (bltV b) := by
  cases b <;> first | (exact absurd rfl h) | decide +kernel
theorem blt_ok (g : Good c G W X) {x : Str} (h : c.blt x = true) : Gl X x ∧ (x == ("__debug__" : Str)) = false ∧ x ≠ "__name__" ∧ X.mg x = none := by
  unfold Ck.blt at h
  simp only [Bool.and_eq_true, decide_eq_true_eq] at h
  obtain ⟨h1, h2, h3⟩ := glo_ok g h.1
  exact ⟨h1, h2, h3, g.nmk.bn x (by rw [← g.nm]; exact h.2)⟩
theorem SEs.star : ∀ {es : List Expr} {as : Es}, SEs G W X es as → ∀ pos, (backTo pos (starEach es X.env)).any (·.1) = false
  | _, _, .nil, _ => rfl
  | _, _, .cons (e := e) (es := es) st _ r, pos => by
    have hs : starEach (e :: es) X.env = (false, eval e X.env) :: starEach es X.env := by
      cases e <;> first | rfl | cases st
    rw [hs]
    show (false || (backTo pos (starEach es X.env)).any (·.1)) = false
    rw [SEs.star r pos]
    rfl
theorem star_cons {e : Expr} {es : List Expr} (st : isStar e = false) : starEach (e :: es) X.env = (false, eval e X.env) :: starEach es X.env := by
  cases e <;> first | rfl | cases st
theorem pe_bltO {b : Blt} {x : Str} {es : List Expr} {as : Es} {p pos : Pos} (g : Good c G W X) (hot : c.hot = false) (hb : c.blt x = true) (hx : x = bltN b) (r : SEs G W X es as) (hne : 0 < es.length) {t : TA} (ha : PA X es t) (hgc : b ≠ .gcd) :
    PE X (.Call (.Name x p) es [] pos) (tCB (rBlt G.R b) t) := by
  obtain ⟨hc, hr, tk, hxe, wd⟩ := g.calm hot
  obtain ⟨h1, h2, h3, h4⟩ := blt_ok g hb
  have cr := cr_blt (X := X) g.K wd.cls hc b
  have bt : bootBuiltins x = some (bltV b) := by rw [hx]; exact blt_boot b hgc
  cases r with
  | nil => simp at hne
  | cons st h r =>
    have hty : (∃ T, bltV b = .type T) ∨ ∃ id, bltV b = .builtin id := by cases b <;> first | exact .inl ⟨_, rfl⟩ | exact .inr ⟨_, rfl⟩
    rcases hty with ⟨T, e⟩ | ⟨id, e⟩
    · rw [e] at cr bt
      exact pe_callTy cr h1 h4 bt ha h3 h2 (star_cons st) (r.star pos)
    · rw [e] at cr bt
      exact pe_callB cr h1 h4 bt ha h3 h2 (star_cons st) (r.star pos)
theorem s_blt (g : Good c G W X) (hot : c.hot = false) {b : Blt} {x : Str} {es : List Expr} {as : Es} {p pos : Pos} (hgc : b ≠ .gcd) (hb : c.blt x = true) (hx : x = bltN b) (r : SEs G W X es as) (hne : 0 < es.length) : SE G W X (.Call (.Name x p) es [] pos) (.blt b as) := by
  have hm : muE G.T (.blt b as) = muEs G.T as := by rw [muE]
  have pe : PE X (.Call (.Name x p) es [] pos) (rdE G W (.blt b as)) := PEimp (pe_bltO g hot hb hx r hne (pa_as r) hgc) fun σ H Q ⟨env, ow, Rs, es, k⟩ => by
    rw [evX, hm] at k
    refine ⟨env, ow, Rs, es, k.bind.imp fun p _ kp vs H1 ow1 os1 po rv => ?_⟩
    obtain ⟨z, hz, kz⟩ := kp.opt
    obtain ⟨d, hd, rfl⟩ := Option.map_eq_some_iff.mp hz
    exact ⟨_, p.1, d, rv, hd, NewR.of po kz⟩
  refine ⟨pe, pt_gen g.K pe (fun _ => rfl) (fun env => by rw [evX, evX]; rfl), no_p fun _ => by unfold peek; rfl, ?_⟩
  -- len of a place
  have none_ : (∀ env, smp (.blt b as) env = none) → PE X (.Call (.Name x p) es [] pos) (rdS G (.blt b as)) := no_s
  cases b
  case len =>
    cases r with
    | nil => simp at hne
    | @cons e es' a as' st h r' =>
      cases r' with
      | nil =>
        obtain ⟨b1, b2, b3, b4⟩ := blt_ok g hb
        have bt : bootBuiltins x = some (.builtin "len") := by rw [hx]; exact blt_boot .len hgc
        refine PEimp (pe_callB call_len_seq b1 b4 bt (pa_cons h.pp pa_nil (star_cons st)) b3 b2 (star_cons st) rfl) fun σ H Q ⟨env, ow, Rs, k, es, hk, q⟩ => ?_
        unfold smp at hk
        simp only [smpLen] at hk
        obtain ⟨d, hd, hk⟩ := Option.bind_eq_some_iff.mp hk
        obtain ⟨xs, hxs, rfl⟩ := Option.map_eq_some_iff.mp hk
        refine ⟨env, ow, Rs, d, es, hd, fun v os r hr _ => ?_⟩
        unfold items at hxs
        split at hxs
        · cases hxs
          obtain ⟨_, pa, vs, rfl, h, rr⟩ := r.tupD
          exact ⟨pa, vs, rfl, .inr (g.K ▸ h), by rw [rr.length]; exact q⟩
        · cases hxs
          obtain ⟨pa, vs, os', rfl, h, rr, _⟩ := r.lstD
          exact ⟨pa, vs, rfl, .inl (g.K ▸ h), by rw [rr.length]; exact q⟩
        · cases hxs
      | cons st2 h2 r2 => exact none_ fun env => by unfold smp; simp only [smpLen]
  all_goals exact none_ fun env => by unfold smp; rfl

end
end VS
set_option Elab.async false
set_option linter.all false
set_option maxRecDepth 100000
set_option maxHeartbeats 2000000
/-! VSo: a list changed in its place. -/
namespace VS
open PySem PySem.Spec PyProof.Rows L2
section
variable {R : Rt} {H : Hp} {Rs : Av} {A : Av} {σ : L2.St} {ow : Own} {env : VE}
/-- a list split at j -/
theorem RPs.at_ : ∀ {ds : List D} {vs : List V} {os : List Addr} {j : Nat} {d : D}, RPs R H A ds vs os → ds[j]? = some d → ∃ v o1 oj o2, vs[j]? = some v ∧ os = o1 ++ (oj ++ o2) ∧ RP R H A d v oj ∧
    ∀ H' A' S d' oj', Chg S H H' → (∀ a, S a → A a) → (∀ a, A' a → A a ∨ H a = none) → (∀ a ∈ o1 ++ o2, ¬ S a) → RP R H' A' d' v oj' → RPs R H' A' (ds.set j d') vs (o1 ++ (oj' ++ o2))
  | [], _, _, _, _, _, e => by simp at e
  | x :: ds, vs, os, j, d, h, e => by
    unfold RPs at h
    obtain ⟨v, vs', o1, o2, rfl, rfl, h1, h2⟩ := h
    cases j with
    | zero =>
      simp at e; subst e
      refine ⟨v, [], o1, o2, rfl, rfl, h1, fun H' A' S d' oj' c hA hB hS r => ?_⟩
      rw [List.set_cons_zero, List.nil_append]
      exact RPs.cons r (h2.chg c hA hB fun a ha => hS a (by simpa using ha))
    | succ j =>
      obtain ⟨w, p1, oj, p2, hw, rfl, rw', cl⟩ := RPs.at_ (j := j) h2 (by simpa using e)
      refine ⟨w, o1 ++ p1, oj, p2, by simpa using hw, by simp, rw', fun H' A' S d' oj' c hA hB hS r => ?_⟩
      rw [List.set_cons_succ]
      have := RPs.cons (h1.chg c hA hB fun a ha => hS a (by simp [ha])) (cl H' A' S d' oj' c hA hB (fun a ha => hS a (by
        rcases List.mem_append.mp ha with z | z
        · simp [z]
        · simp [z])) r)
      simpa [List.append_assoc] using this
/-- the place in its root's tree -/
theorem upd_ctx (es : ES R H Rs env σ ow) : ∀ {o : E} {env' : VE} {f : D → Option D} {d : D} {v : V}, peek o env = some d → PAt H σ env o v → updP o env f = some env' →
    ∃ r d0 v0 pre osd post d' d0', rootE o = some r ∧ getV env r = some d0 ∧ σ[r]? = some (some v0) ∧ ow r = pre ++ (osd ++ post) ∧ RP R H (Avd ow Rs) d v osd ∧ f d = some d' ∧ env' = setV env r d0' ∧
      ∀ H' A' osd' S, Chg S H H' → (∀ a, S a → Avd ow Rs a) → (∀ a, A' a → Avd ow Rs a ∨ H a = none) → (∀ a ∈ pre ++ post, ¬ S a) → RP R H' A' d' v osd' → RP R H' A' d0' v0 (pre ++ (osd' ++ post))
  | .var i, env', f, d, v, hp, pt, hu => by
    unfold updP at hu
    obtain ⟨d0, h0, hu⟩ := Option.bind_eq_some_iff.mp hu
    obtain ⟨d1, h1, rfl⟩ := Option.map_eq_some_iff.mp hu
    unfold peek at hp
    rw [h0] at hp; cases hp
    unfold PAt at pt
    obtain ⟨w, hw, r⟩ := env_get es h0
    rw [pt] at hw
    cases hw
    exact ⟨i, _, v, [], ow i, [], d1, d1, by unfold rootE; rfl, h0, pt, by simp, r, h1, rfl, fun H' A' osd' S c hA hB hS r => by simpa using r⟩
  | .sub o k, env', f, d, v, hp, pt, hu => by
    unfold updP at hu
    obtain ⟨n, hn, hu⟩ := Option.bind_eq_some_iff.mp hu
    unfold peek at hp
    obtain ⟨dl, hdl, hp1⟩ := Option.bind_eq_some_iff.mp hp
    clear hp
    obtain ⟨n', hn', hp2⟩ := Option.bind_eq_some_iff.mp hp1
    clear hp1
    rw [hn] at hn'; cases hn'
    obtain ⟨xs, hxs, hp3⟩ := Option.bind_eq_some_iff.mp hp2
    clear hp2
    unfold PAt at pt
    obtain ⟨u, n', ptu, hn', one⟩ := pt
    rw [hn] at hn'; cases hn'
    obtain ⟨r, d0, v0, pre, osd, post, d', d0', e1, e2, e3, e4, rp, ef, e5, ctx⟩ := upd_ctx es hdl ptu hu
    split at ef
    · split at ef
      · rename_i hr
        obtain ⟨x, hx, ef⟩ := Option.bind_eq_some_iff.mp ef
        obtain ⟨y, hy, rfl⟩ := Option.map_eq_some_iff.mp ef
        simp only [items, Option.some.injEq] at hxs
        subst hxs
        unfold RP at rp
        simp only [if_true] at rp
        obtain ⟨a, vs, os', rfl, rfl, ha, rr⟩ := rp
        obtain ⟨w, o1, oj, o2, hw, rfl, rx, cl⟩ := rr.at_ hx
        have ed : d = x := by
          unfold ixD atI ixN at hp3
          rw [if_pos hr.1, if_pos hr.2] at hp3
          have h3 : _ = some d := hp3
          simp only [Option.bind_some] at h3
          rw [hx] at h3; cases h3; rfl
        subst ed
        have ev : v = w := by
          have := one _ a vs hdl rfl ha
          unfold atI ixN at this
          rw [if_pos hr.1, if_pos (by rw [rr.length]; exact hr.2)] at this
          have : vs[n.toNat]? = some v := this
          rw [hw] at this; cases this; rfl
        subst ev
        refine ⟨r, d0, v0, pre ++ a :: o1, oj, o2 ++ post, y, d0', by unfold rootE; exact e1, e2, e3, by rw [e4]; simp, rx, hy, e5, fun H' A' osd' S c hA hB hS r' => ?_⟩
        have q := ctx H' A' (a :: (o1 ++ (osd' ++ o2))) S c hA hB (fun b hb => hS b (by
          rcases List.mem_append.mp hb with z | z
          · simp [z]
          · simp [z])) (by
          unfold RP
          simp only [if_true]
          refine ⟨a, vs, _, rfl, rfl, c.same a _ ha (hS a (by simp)), cl H' A' S y osd' c hA hB (fun b hb => hS b ?_) r'⟩
          rcases List.mem_append.mp hb with z | z
          · simp [z]
          · simp [z])
        simpa [List.append_assoc] using q
      · cases ef
    · cases ef
theorem upd_hp {H : Hp} {a : Addr} {o : HO} {u : HO} (h : H a = some u) (m : MutO u) : Chg (fun b => b = a) H (upd H a o) := ⟨fun b o' e hb => by rw [upd_ne hb]; exact e, fun b o' hb e => by subst hb; rw [h] at e; cases e; exact m⟩
/-- the list at a place, changed -/
theorem upd_put {mu : Bool} {ow0 : Own} {H0 : Hp} {os1 os2 : List Addr} (s0 : ES R H0 Rs env0 σ ow0) (po : Po R Rs mu ow0 H0 env σ ow os1 H) {o : E} {env' : VE} {f : D → Option D} {xs xs' : List D} {v : V} (hp : peek o env = some (.lst true xs)) (pt : PAt H σ env o v)
    (hu : updP o env f = some env') (hf : f (.lst true xs) = some (.lst true xs')) : ∃ a vs osx, v = .ref a ∧ H a = some (.lst vs) ∧ RPs R H (Avd ow (Tm Rs os1)) xs vs osx ∧ osx.Nodup ∧ (∀ b ∈ osx, b ∉ os1) ∧
      ∀ vs' osx', RPs R H (Avd ow (Tm Rs os1)) xs' vs' osx' → (∀ b ∈ osx', b ∈ osx ∨ b ∈ os1) → osx'.Nodup → (∀ b ∈ os2, b ∈ os1 ∧ b ∉ osx') → os2.Nodup → ∃ ow', Po R Rs true ow0 H0 env' σ ow' os2 (upd H a (.lst vs')) := by
  obtain ⟨r, d0, v0, pre, osd, post, d', d0', e1, e2, e3, e4, rp, ef, e5, ctx⟩ := upd_ctx po.es hp pt hu
  rw [hf] at ef; cases ef
  unfold RP at rp
  simp only [if_true] at rp
  obtain ⟨a, vs, osx, rfl, rfl, ha, rr⟩ := rp
  have nd := po.es.nd r
  rw [e4] at nd
  have hin : ∀ b, b ∈ pre ∨ b = a ∨ b ∈ osx ∨ b ∈ post → b ∈ ow r := fun b hb => by
    rw [e4]
    rcases hb with z | z | z | z <;> simp [z]
  have apart : ∀ b ∈ ow r, b ∉ os1 := fun b hb hb' => po.es.rs b (.inr hb') ⟨r, hb⟩
  rw [List.nodup_append] at nd
  obtain ⟨nd1, nd2, nd3⟩ := nd
  rw [List.cons_append, List.nodup_cons] at nd2
  obtain ⟨nd4, nd5⟩ := nd2
  rw [List.nodup_append] at nd5
  obtain ⟨nd6, nd7, nd8⟩ := nd5
  refine ⟨a, vs, osx, rfl, ha, rr, nd6, fun b hb => apart b (hin b (.inr (.inr (.inl hb)))), fun vs' osx' r' h1 h2 h3 h4 => ?_⟩
  have ham : a ∉ osx' := fun z => by
    rcases h1 a z with w | w
    · exact nd4 (List.mem_append_left _ w)
    · exact apart a (hin a (.inr (.inl rfl))) w
  have c := upd_hp (o := .lst vs') ha trivial
  have hS : ∀ b ∈ pre ++ post, ¬ b = a := fun b hb z => by
    subst z
    rcases List.mem_append.mp hb with w | w
    · exact nd3 b w b (by simp) rfl
    · exact nd4 (List.mem_append_right _ w)
  have hSa : ∀ b, b = a → Avd ow (Tm Rs os1) b := fun b z => by subst z; exact .inl ⟨r, hin b (.inr (.inl rfl))⟩
  have hos : ∀ b ∈ pre ++ ((a :: osx') ++ post), b ∈ ow r ∨ Tm Rs os1 b ∨ H b = none := fun b hb => by
    rcases List.mem_append.mp hb with z | z
    · exact .inl (hin b (.inl z))
    · rcases List.mem_append.mp z with z | z
      · rcases List.mem_cons.mp z with z | z
        · exact .inl (hin b (.inr (.inl z)))
        · rcases h1 b z with w | w
          · exact .inl (hin b (.inr (.inr (.inl w))))
          · exact .inr (.inl (.inr w))
      · exact .inl (hin b (.inr (.inr (.inr z))))
  have sub : ∀ b, Avd (setO ow r (pre ++ ((a :: osx') ++ post))) (Tm Rs os2) b → Avd ow (Tm Rs os1) b ∨ H b = none := fun b q => by
    rcases q with q | q | q
    · rcases Ow_setO.mp q with z | ⟨j, _, z⟩
      · rcases hos b z with w | w | w
        · exact .inl (.inl ⟨r, w⟩)
        · exact .inl (.inr w)
        · exact .inr w
      · exact .inl (.inl ⟨j, z⟩)
    · exact .inl (.inr (.inl q))
    · exact .inl (.inr (.inr (h3 b q).1))
  have rd := ctx (upd H a (.lst vs')) (Avd (setO ow r (pre ++ ((a :: osx') ++ post))) (Tm Rs os2)) (a :: osx') (fun b => b = a) c hSa sub hS (by
    unfold RP
    simp only [if_true]
    exact ⟨a, vs', osx', rfl, rfl, upd_same, r'.chg c hSa sub fun b hb z => by subst z; exact ham hb⟩)
  have hnd : (pre ++ ((a :: osx') ++ post)).Nodup := by
    rw [List.nodup_append]
    refine ⟨nd1, ?_, fun x hx y hy e => ?_⟩
    · rw [List.cons_append, List.nodup_cons]
      refine ⟨fun z => ?_, ?_⟩
      · rcases List.mem_append.mp z with w | w
        · exact ham w
        · exact nd4 (List.mem_append_right _ w)
      · rw [List.nodup_append]
        refine ⟨h2, nd7, fun x hx y hy e => ?_⟩
        subst e
        rcases h1 x hx with w | w
        · exact nd8 x w x hy rfl
        · exact apart x (hin x (.inr (.inr (.inr hy)))) w
    · subst e
      rcases List.mem_append.mp hy with z | z
      · rcases List.mem_cons.mp z with z | z
        · exact nd3 x hx x (by simp [z]) rfl
        · rcases h1 x z with w | w
          · exact nd3 x hx x (by simp [w]) rfl
          · exact apart x (hin x (.inl hx)) w
      · exact nd3 x hx x (by simp [z]) rfl
  obtain ⟨hl, he⟩ := getV_lt e2
  have p := ES.put (S := fun b => b = a) (H' := upd H a (.lst vs')) (Rs' := Tm Rs os2) po.es hl c (fun b z => .inl (by subst z; exact hin b (.inr (.inl rfl)))) (fun b z => by
      by_cases hb : b = a
      · subst hb; rw [upd_same]; simp
      · rw [upd_ne hb]; exact z) (fun b q => by
      rcases q with q | q
      · refine ⟨.inl q, fun z => ?_⟩
        rcases List.mem_append.mp z with z | z
        · exact po.es.rs b (.inl q) ⟨r, hin b (.inl z)⟩
        · rcases List.mem_append.mp z with z | z
          · rcases List.mem_cons.mp z with z | z
            · exact po.es.rs b (.inl q) ⟨r, hin b (.inr (.inl z))⟩
            · rcases h1 b z with w | w
              · exact po.es.rs b (.inl q) ⟨r, hin b (.inr (.inr (.inl w)))⟩
              · exact po.apart s0 b w (.inr q)
          · exact po.es.rs b (.inl q) ⟨r, hin b (.inr (.inr (.inr z)))⟩
      · refine ⟨.inr (h3 b q).1, fun z => ?_⟩
        have hb1 := (h3 b q).1
        rcases List.mem_append.mp z with z | z
        · exact apart b (hin b (.inl z)) hb1
        · rcases List.mem_append.mp z with z | z
          · rcases List.mem_cons.mp z with z | z
            · exact apart b (hin b (.inr (.inl z))) hb1
            · exact (h3 b q).2 z
          · exact apart b (hin b (.inr (.inr (.inr z)))) hb1) hos hnd rd
  rw [set_same e3] at p
  subst e5
  have oldA : Ow ow0 a ∨ H0 a = none := po.new a (.inl ⟨r, hin a (.inr (.inl rfl))⟩)
  refine ⟨_, p, fun b q => ?_, fun b o' e q => ?_, fun b q => ?_, h4⟩
  · rcases q with q | q
    · rcases Ow_setO.mp q with z | ⟨j, _, z⟩
      · rcases hos b z with w | w | w
        · exact po.new b (.inl ⟨r, w⟩)
        · rcases w with w | w
          · exfalso
            rcases List.mem_append.mp z with z | z
            · exact po.es.rs b (.inl w) ⟨r, hin b (.inl z)⟩
            · rcases List.mem_append.mp z with z | z
              · rcases List.mem_cons.mp z with z | z
                · exact po.es.rs b (.inl w) ⟨r, hin b (.inr (.inl z))⟩
                · rcases h1 b z with y | y
                  · exact po.es.rs b (.inl w) ⟨r, hin b (.inr (.inr (.inl y)))⟩
                  · exact po.apart s0 b y (.inr w)
              · exact po.es.rs b (.inl w) ⟨r, hin b (.inr (.inr (.inr z)))⟩
          · exact po.new b (.inr w)
        · right
          cases e : H0 b with
          | none => rfl
          | some o => exact absurd w (po.trk b (by rw [e]; simp))
      · exact po.new b (.inl ⟨j, z⟩)
    · exact po.new b (.inr (h3 b q).1)
  · have hb : b ≠ a := fun z => by
      subst z
      rcases oldA with w | w
      · exact q rfl w
      · rw [e] at w; cases w
    rw [upd_ne hb]
    exact po.fr b o' e fun _ => q rfl
  · have := po.trk b q
    by_cases hb : b = a
    · subst hb; rw [upd_same]; simp
    · rw [upd_ne hb]; exact this
end
end VS
set_option Elab.async false
set_option linter.all false
set_option maxRecDepth 100000
set_option maxHeartbeats 2000000
/-! VSp: methods of lists. -/
namespace VS
open PySem PySem.Spec PyProof.Rows L2
section
variable {G : Wd} {W : WX} {X : Cx} {c : Ck}
theorem tyL {K : PySem.W.Frag} {a : Addr} {vs : List V} {H : Hp} (h : H a = some (.lst vs)) : tyV K "list" (.ref a) H := .inl ⟨rfl, _, SqL.of h⟩
theorem RPs.rev {R : Rt} {H : Hp} {A : Av} : ∀ {ds : List D} {vs : List V}, RPs R H A ds vs [] → RPs R H A ds.reverse vs.reverse []
  | [], vs, h => by unfold RPs at h; obtain ⟨rfl, _⟩ := h; exact RPs.nil
  | d :: ds, vs, h => by
    unfold RPs at h
    obtain ⟨v, vs', o1, o2, rfl, e, h1, h2⟩ := h
    obtain ⟨e1, e2⟩ := List.append_eq_nil_iff.mp e.symm
    subst e1 e2
    rw [List.reverse_cons, List.reverse_cons]
    exact (RPs.rev h2).append0 (RPs.one h1)
theorem s_pop (g : Good c G W X) {x : Expr} {ap p : Pos} {o : E} (hn : noSup x = true) (hl : (ap.endLine == p.line) = true) (h : SE G W X x o) : SE G W X (.Call (.Attribute x "pop" ap) [] [] p) (.lm .pop o .nil) := by
  have hm : muE G.T (.lm .pop o .nil) = true := by rw [muE]
  have pe : PE X (.Call (.Attribute x "pop" ap) [] [] p) (rdE G W (.lm .pop o .nil)) := PEimp (pe_bm0 PySem.F.plainAttrs_list PySem.F.slot_list_pop PySem.F.type_list_pop mt_pop h.pp (base_ok hn) hl) fun σ H Q ⟨env, ow, Rs, es, k⟩ => by
    rw [evX, hm] at k
    have k : KR G.R W Rs true ow H σ (match peek o env with
      | some (.lst true xs) => match xs.getLast? with
        | some x => if x.isFz then optR ((updP o env fun _ => some (.lst true xs.dropLast)).map fun e => (x, e)) else .no
        | none => .no
      | _ => .no) (EK G.R Rs true ow H σ Q) := k
    split at k
    · rename_i xs hp
      split at k
      · rename_i y hy
        split at k
        · rename_i hf
          obtain ⟨z, hz, kz⟩ := k.opt
          obtain ⟨e, hu, rfl⟩ := Option.map_eq_some_iff.mp hz
          refine ⟨env, ow, Rs, _, es, hp, fun v os r _ pt => ?_⟩
          obtain ⟨a, vs, osx, rfl, ha, rr, nd, _, put⟩ := upd_put (os2 := []) (mu := true) es (Po.refl es) hp pt hu rfl
          have ex : xs = xs.dropLast ++ [y] := by
            have hne : xs ≠ [] := fun z => by rw [z] at hy; cases hy
            have h1 := List.dropLast_concat_getLast hne
            have h2 : xs.getLast? = some (xs.getLast hne) := by
              cases xs with
              | nil => exact absurd rfl hne
              | cons z zs => rfl
            rw [h2] at hy
            cases hy
            exact h1.symm
          rw [ex] at rr
          obtain ⟨v1, v2, o1, o2, rfl, rfl, k1, k2⟩ := rr.split
          unfold RPs at k2
          obtain ⟨w, vs', p1, p2, rfl, rfl, rw', k3⟩ := k2
          unfold RPs at k3
          obtain ⟨rfl, rfl⟩ := k3
          have hp1 := rw'.fz_nil hf
          subst hp1
          obtain ⟨ow', po⟩ := put v1 o1 k1 (fun b hb => .inl (List.mem_append_left _ hb)) (by simpa using nd) (by simp) (by simp)
          refine ⟨tyL ha, a, _, w, rfl, rfl, ha, by simp, ?_⟩
          rw [List.dropLast_concat]
          exact kz w _ ow' [] po (po.keep es (rw'.avoid fun a q => .inl (AvdTm.mpr q)) (by simp))
        · exact k.elim
      · exact k.elim
    · exact k.elim
  exact ⟨pe, pt_gen g.K pe (fun _ => rfl) (fun env => by rw [evX, evX]; rfl), no_p fun _ => by unfold peek; rfl, no_s fun _ => by unfold smp; rfl⟩
theorem s_reverse (g : Good c G W X) {x : Expr} {ap p : Pos} {o : E} (hn : noSup x = true) (hl : (ap.endLine == p.line) = true) (h : SE G W X x o) : SE G W X (.Call (.Attribute x "reverse" ap) [] [] p) (.lm .reverse o .nil) := by
  have hm : muE G.T (.lm .reverse o .nil) = true := by rw [muE]
  have pe : PE X (.Call (.Attribute x "reverse" ap) [] [] p) (rdE G W (.lm .reverse o .nil)) := PEimp (pe_bm0 PySem.F.plainAttrs_list PySem.F.slot_list_reverse PySem.F.type_list_reverse mt_reverse h.pp (base_ok hn) hl) fun σ H Q ⟨env, ow, Rs, es, k⟩ => by
    rw [evX, hm] at k
    have k : KR G.R W Rs true ow H σ (match peek o env with
      | some (.lst true xs) => if D.allFz xs then optR ((updP o env fun _ => some (.lst true xs.reverse)).map fun e => (.non, e)) else .no
      | _ => .no) (EK G.R Rs true ow H σ Q) := k
    split at k
    · rename_i xs hp
      split at k
      · rename_i hf
        obtain ⟨z, hz, kz⟩ := k.opt
        obtain ⟨e, hu, rfl⟩ := Option.map_eq_some_iff.mp hz
        refine ⟨env, ow, Rs, _, es, hp, fun v os r _ pt => ?_⟩
        obtain ⟨a, vs, osx, rfl, ha, rr, nd, _, put⟩ := upd_put (os2 := []) (mu := true) es (Po.refl es) hp pt hu rfl
        have hp1 := rr.fz_nil hf
        subst hp1
        obtain ⟨ow', po⟩ := put vs.reverse [] rr.rev (by simp) (by simp) (by simp) (by simp)
        exact ⟨tyL ha, a, _, rfl, rfl, ha, kz _ _ ow' [] po RP.mkNon⟩
      · exact k.elim
    · exact k.elim
  exact ⟨pe, pt_gen g.K pe (fun _ => rfl) (fun env => by rw [evX, evX]; rfl), no_p fun _ => by unfold peek; rfl, no_s fun _ => by unfold smp; rfl⟩
theorem s_append (g : Good c G W X) {x y : Expr} {ap p : Pos} {i : Nat} {a : E} (hx : PE X x (tVar i)) (hn : noSup x = true) (hl : (ap.endLine == p.line) = true) (st : isStar y = false) (h : SE G W X y a) : SE G W X (.Call (.Attribute x "append" ap) [y] [] p) (.lm .append (.var i) (.cons a .nil)) := by
  have hm : muE G.T (.lm .append (.var i) (.cons a .nil)) = true := by rw [muE]
  have hs := star_cons (X := X) (es := []) st
  have pe : PE X (.Call (.Attribute x "append" ap) [y] [] p) (rdE G W (.lm .append (.var i) (.cons a .nil))) := PEimp (pe_bm PySem.F.plainAttrs_list PySem.F.slot_list_append PySem.F.type_list_append mt_append hx (pa_cons h.pe pa_nil hs) (base_ok hn) (by rw [hs]; rfl) hl hs rfl) fun σ H Q ⟨env, ow, Rs, es, k⟩ => by
    rw [evX, hm] at k
    have k : KR G.R W Rs true ow H σ (match getV env i with
        | some (.lst true _) => (evX G.T G.call false a env).bind fun p => match getV p.2 i with
          | some (.lst true xs) => if lenOk (xs.length + 1) then .ok (.non, setV p.2 i (.lst true (xs ++ [p.1]))) else .no
          | _ => .no
        | _ => .no) (EK G.R Rs true ow H σ Q) := k
    split at k
    · rename_i xs0 h0
      obtain ⟨v, hv, r0⟩ := env_get es h0
      unfold RP at r0
      simp only [if_true] at r0
      obtain ⟨ad, vs0, os0, rfl, _, ha0, _⟩ := r0
      refine ⟨.ref ad, hv, tyL ha0, env, ow, Rs, es, (k.bind.le fun _ => rfl).imp fun p _ kp w H1 ow1 os1 po1 r1 => ?_⟩
      split at kp
      · rename_i xs hg
        split at kp
        · rename_i hlen
          have hp : peek (.var i) p.2 = some (.lst true xs) := by unfold peek; exact hg
          have pt : PAt H1 σ p.2 (.var i) (.ref ad) := by unfold PAt; exact hv
          obtain ⟨a', vs, osx, e, ha, rr, nd, ap', put⟩ := upd_put (os2 := []) (f := fun _ => some (.lst true (xs ++ [p.1]))) (env' := setV p.2 i (.lst true (xs ++ [p.1]))) es po1 hp pt (by unfold updP; rw [hg]; rfl) rfl
          cases e
          obtain ⟨ow', po⟩ := put (vs ++ [w]) (osx ++ os1) (rr.append (RPs.one r1)) (fun b hb => List.mem_append.mp hb) (List.nodup_append.mpr ⟨nd, po1.nd, fun x hx y hy e => ap' x hx (e ▸ hy)⟩) (by simp) (by simp)
          refine ⟨ad, vs, w, rfl, rfl, ha, ?_, kp _ _ ow' [] po RP.mkNon⟩
          have z := of_decide_eq_true (show decide (xs.length + 1 ≤ 16000000) = true from hlen)
          rw [rr.length, sizeLine_eq]; omega
        · exact kp.elim
      · exact kp.elim
    · exact k.elim
  exact ⟨pe, pt_gen g.K pe (fun _ => rfl) (fun env => by rw [evX, evX]; rfl), no_p fun _ => by unfold peek; rfl, no_s fun _ => by unfold smp; rfl⟩
end
end VS
set_option Elab.async false
set_option linter.all false
set_option maxRecDepth 100000
set_option maxHeartbeats 2000000
/-! VSq: calls of defs, of classes. -/
namespace VS
open PySem PySem.Spec PyProof.Rows L2
/-! ### arguments in the parameters' order -/
theorem Vals.getD_ : ∀ {vs : List V} {us : List Value}, Vals vs us → ∀ j, L2.RelV (vs.getD j .non) (us.getD j .none)
  | _, _, .nil, j => by simp; rfl
  | _, _, .cons r t, 0 => by simpa using r
  | _, _, .cons r t, j + 1 => by simpa using Vals.getD_ t j
theorem Vals.tail_ {vs : List V} {us : List Value} (h : Vals vs us) : Vals vs.tail us.tail := by
  cases h with
  | nil => exact .nil
  | cons r t => exact t
theorem Vals.headD_ {vs : List V} {us : List Value} (h : Vals vs us) : L2.RelV (vs.headD .non) (us.headD .none) := by
  cases h with
  | nil => exact (show L2.RelV .non .none from rfl)
  | cons r t => exact r
theorem pick_vals : ∀ (src : List Srs) {vd vs ws : List V} {ud us uw : List Value}, Vals vd ud → Vals vs us → Vals ws uw → Vals (pickX .non src vd vs ws) (pickX .none src ud us uw)
  | [], _, _, _, _, _, _, _, _, _ => .nil
  | .pos j :: r, _, _, _, _, _, _, h1, h2, h3 => .cons (Vals.getD_ h2 j) (pick_vals r (Vals.tail_ h1) h2 h3)
  | .kw j :: r, _, _, _, _, _, _, h1, h2, h3 => .cons (Vals.getD_ h3 j) (pick_vals r (Vals.tail_ h1) h2 h3)
  | .dfl d :: r, _, _, _, _, _, _, h1, h2, h3 => .cons (Vals.headD_ h1) (pick_vals r (Vals.tail_ h1) h2 h3)
theorem pick_len {α : Type} (z : α) : ∀ (src : List Srs) (ud us ws : List α), (pickX z src ud us ws).length = src.length
  | [], _, _, _ => rfl
  | .pos j :: r, _, _, _ => by unfold pickX; simp [pick_len z r]
  | .kw j :: r, _, _, _ => by unfold pickX; simp [pick_len z r]
  | .dfl j :: r, _, _, _ => by unfold pickX; simp [pick_len z r]
def DflOk (R : Rt) (src : List Srs) (vd : List V) : Prop := ∀ (i : Nat) d, src[i]? = some (.dfl d) → ∃ v, vd[i]? = some v ∧ ∀ H A, RP R H A d v []
theorem DflOk.tail {R : Rt} {s : Srs} {src : List Srs} {vd : List V} (h : DflOk R (s :: src) vd) : DflOk R src vd.tail := fun i d e => by
  obtain ⟨v, hv, r⟩ := h (i + 1) d (by simpa using e)
  refine ⟨v, ?_, r⟩
  cases vd with
  | nil => simp at hv
  | cons a b => simpa using hv
section
variable {R : Rt} {H : Hp} {A : Av}
theorem fill_RPs {b : Bool} {ps ks : List D} {pv kv : List V} (hp : ∀ (j : Nat) (d : D), (b = true → j ≠ 0) → ps[j]? = some d → ∃ v, pv[j]? = some v ∧ RP R H A d v []) (hk : ∀ (j : Nat) (d : D), ks[j]? = some d → ∃ v, kv[j]? = some v ∧ RP R H A d v []) :
    ∀ {src : List Srs} {vd : List V} {ds : List D}, (b = true → noSelf src = true) → DflOk R src vd → fillS src ps ks = some ds → RPs R H A ds (pickX .non src vd pv kv) []
  | [], vd, ds, _, _, h => by
    unfold fillS at h; cases h
    exact RPs.nil
  | .pos j :: r, vd, ds, hb, hd, h => by
    unfold fillS at h
    obtain ⟨d, h1, h⟩ := Option.bind_eq_some_iff.mp h
    obtain ⟨ds', h2, rfl⟩ := Option.map_eq_some_iff.mp h
    have hb' : b = true → j ≠ 0 ∧ noSelf r = true := fun z => by
      have := hb z
      unfold noSelf at this
      simp only [Bool.and_eq_true, decide_eq_true_eq] at this
      exact this
    obtain ⟨v, hv, rv⟩ := hp j d (fun z => (hb' z).1) h1
    unfold pickX
    rw [List.getD_eq_getElem?_getD, hv]
    exact RPs.cons (o1 := []) (o2 := []) rv (fill_RPs hp hk (fun z => (hb' z).2) hd.tail h2)
  | .kw j :: r, vd, ds, hb, hd, h => by
    unfold fillS at h
    obtain ⟨d, h1, h⟩ := Option.bind_eq_some_iff.mp h
    obtain ⟨ds', h2, rfl⟩ := Option.map_eq_some_iff.mp h
    obtain ⟨v, hv, rv⟩ := hk j d h1
    unfold pickX
    rw [List.getD_eq_getElem?_getD, hv]
    exact RPs.cons (o1 := []) (o2 := []) rv (fill_RPs hp hk (fun z => by have := hb z; unfold noSelf at this; exact this) hd.tail h2)
  | .dfl d :: r, vd, ds, hb, hd, h => by
    unfold fillS at h
    obtain ⟨ds', h2, rfl⟩ := Option.map_eq_some_iff.mp h
    obtain ⟨v, hv, rv⟩ := hd 0 d rfl
    unfold pickX
    have e : vd.headD .non = v := by
      cases vd with
      | nil => simp at hv
      | cons a b => simpa using hv
    rw [e]
    exact RPs.cons (o1 := []) (o2 := []) (rv _ _) (fill_RPs hp hk (fun z => by have := hb z; unfold noSelf at this; exact this) hd.tail h2)
theorem RPs.get0 {ds : List D} {vs : List V} (h : RPs R H A ds vs []) {j : Nat} {d : D} (e : ds[j]? = some d) : ∃ v, vs[j]? = some v ∧ RP R H A d v [] := by
  obtain ⟨v, o, hv, r, sl⟩ := h.get e
  have := List.eq_nil_of_sublist_nil sl
  subst this
  exact ⟨v, hv, r⟩
mutual
theorem D.fz_isFz : ∀ (d : D), d.fz.isFz = true
  | .non => rfl
  | .bl _ => rfl
  | .int _ => rfl
  | .str _ => rfl
  | .cls _ => rfl
  | .ty _ => rfl
  | .rng _ _ => rfl
  | .tup xs => by unfold D.fz D.isFz; exact D.fzs_allFz xs
  | .lst o xs => by unfold D.fz D.isFz; rw [D.fzs_allFz xs]; rfl
  | .obj o c xs => by unfold D.fz D.isFz; rw [D.fzs_allFz xs]; rfl
  | .exv c xs => by unfold D.fz D.isFz; exact D.fzs_allFz xs
theorem D.fzs_allFz : ∀ (ds : List D), D.allFz (D.fzs ds) = true
  | [] => rfl
  | d :: ds => by unfold D.fzs D.allFz; rw [D.fz_isFz d, D.fzs_allFz ds]; rfl
end
end

/-! ### keywords -/
inductive SKs (G : Wd) (W : WX) (X : Cx) : List Keyword → List Str → Es → Prop
  | nil : SKs G W X [] [] .nil
  | cons {n : Str} {e : Expr} {p : Pos} {kws : List Keyword} {ns : List Str} {a : E} {as : Es} (h : SE G W X e a) (r : SKs G W X kws ns as) : SKs G W X (⟨some n, e, p⟩ :: kws) (n :: ns) (.cons a as)
section
variable {G : Wd} {W : WX} {X : Cx} {c : Ck}
theorem PKimp {kws : List Keyword} {t t' : TA} (h : PK X kws t) (i : ∀ σ H Q, t' σ H Q → t σ H Q) : PK X kws t' := ⟨fun p pins s σ H Q I q => h.run p pins s σ H Q I (i _ _ _ q)⟩
theorem pk_es : ∀ {kws : List Keyword} {ks : List Str} {as : Es}, SKs G W X kws ks as → PK X kws (rdEs G W as)
  | _, _, _, .nil => PKimp pk_nil fun σ H Q ⟨env, ow, Rs, es, k⟩ => by
    rw [evEs] at k
    exact k [] H ow [] (Po.refl es) RPs.nil
  | _, _, _, .cons (a := a) (as := as) h r => by
    refine PKimp (pk_cons h.pe (pk_es r)) fun σ H Q ⟨env, ow, Rs, es, k⟩ => ?_
    rw [evEs] at k
    have hm : muEs G.T (.cons a as) = (muE G.T a || muEs G.T as) := by rw [muEs]
    rw [hm] at k
    refine ⟨env, ow, Rs, es, (k.bind.le ma).imp fun p _ kp => ?_⟩
    intro v H1 ow1 os1 po1 r1
    refine ⟨p.2, ow1, Tm Rs os1, po1.es, (kp.bind.shift po1 ma mb).imp fun q _ kq => ?_⟩
    intro vs H2 ow2 os2 po2 r2
    have r1' := po2.keep po1.es r1 fun a ha => .inr ha
    have ap := po2.apart po1.es
    have hnd : (os1 ++ os2).Nodup := List.nodup_append.mpr ⟨po1.nd, po2.nd, fun a ha b hb e => ap b hb (.inr (e ▸ .inr ha))⟩
    have po := Po.seq (os := os1 ++ os2) po1 po2 (fun a h => List.mem_append.mp h) hnd
    have lo : ∀ a, Avd ow2 (Tm Rs (os1 ++ os2)) a → Avd ow2 (Tm (Tm Rs os1) os2) a := fun a q => by
      rcases q with q | q | q
      · exact .inl q
      · exact .inr (.inl (.inl q))
      · rcases List.mem_append.mp q with z | z
        · exact .inr (.inl (.inr z))
        · exact .inr (.inr z)
    exact kq (v :: vs) H2 ow2 (os1 ++ os2) po (RPs.cons (r1'.avoid fun a q => .inl (lo a q)) (r2.avoid fun a q => .inl (lo a q)))
theorem SKs.names : ∀ {kws : List Keyword} {ks : List Str} {as : Es}, SKs G W X kws ks as → ∀ pos, (backToKw pos (keywordEach kws X.env)).all (·.1.isSome) = true ∧ (backToKw pos (keywordEach kws X.env)).filterMap (·.1) = ks ∧ (backToKw pos (keywordEach kws X.env)).any (·.1.isNone) = false
  | _, _, _, .nil, _ => ⟨rfl, rfl, rfl⟩
  | _, _, _, .cons (n := n) (ns := ns) h r, pos => by
    obtain ⟨h1, h2, h3⟩ := SKs.names r pos
    refine ⟨?_, ?_, ?_⟩
    · show (true && _) = true
      rw [Bool.true_and]; exact h1
    · show n :: _ = n :: ns
      rw [← h2]
      rfl
    · show (false || _) = false
      rw [Bool.false_or]; exact h3

/-- what is asked of a call's values -/
def CallP (G : Wd) (W : WX) (f : Nat) (ks : List Str) (σ : L2.St) (vs ws : List V) (H : Hp) (Q : VK) : Prop :=
  ∃ fn sh, G.T.fns[f]? = some fn ∧ sh ∈ fn.shapes ∧ sh.n = vs.length ∧ sh.ks = ks ∧ ws.length = ks.length ∧ ∀ vd, DflOk G.R sh.src vd → spC G f fn.np fn.mu (pickX .non sh.src vd vs ws) H Q (fun cls d H' => W cls d σ H')
theorem pe_callO {x : Str} {f : Nat} {es : List Expr} {as : Es} {kws : List Keyword} {ks : List Str} {kv : Es} {q p : Pos} {t : TA} (g : Good c G W X) (hot : c.hot = false) (hg : c.glo x = true) (hgf : c.nm.gf[f]? = some (some x)) (r : SEs G W X es as) (kr : SKs G W X kws ks kv) (hne : 0 < es.length) (ha : PA X es t) :
    PE X (.Call (.Name x q) es kws p) (fun σ H Q => t σ H fun vs H1 => rdEs G W kv σ H1 fun ws H2 => CallP G W f ks σ vs ws H2 Q) := by
  obtain ⟨hc, hr, tk, hx, wd⟩ := g.calm hot
  obtain ⟨h1, h2, h3⟩ := glo_ok g hg
  obtain ⟨m1, m2⟩ := g.nmk.gf f x (by rw [← g.nm]; exact hgf)
  rw [← g.K] at m2
  refine ⟨fun pins s σ H Q I h => wpAny_Call_Name_kw (ld_glob I h1 m1 ?_ h2)⟩
  have fin : ∀ {s2 : Shared} {H2 : Hp} {vs ws : List V} {us uw : List Value}, Inv X pins σ H2 s2 → Vals vs us → Vals ws uw → CallP G W f ks σ vs ws H2 Q → wpAny (model X.prog X.w) X.A (call (.ref (G.fa f)) us (ks.zip uw)) (EP X pins σ Q) X.xe s2 := fun {s2 H2 vs ws us uw} I2 rv rw' ⟨fn, sh, e1, e2, e3, e4, e5, sp⟩ => by
    obtain ⟨fd, ps, hps, F, hsh⟩ := (wd.fn f fn e1).ok
    obtain ⟨vd, ud, S⟩ := hsh sh e2
    rw [← g.K] at F
    have b := S.bind s2 us uw (g.K ▸ I2.kIn) (by rw [← rv.length, e3]) (by rw [← rw'.length, e4, e5])
    rw [e4] at b
    exact run_at F (hr.mono (by omega)) I2.env0 tk I2 b (pick_vals _ S.rel rv rw') (sp vd S.dfl)
  obtain ⟨n1, n2, n3⟩ := kr.names p
  cases r with
  | nil => simp at hne
  | cons st h' r' =>
    refine PySem.W.callWith_KW (h₀ := X.base) I.ok.mod.kin m2 n1 (thn (ha.run p pins s σ H _ I h) fun us s1 ⟨vs, H1, I1, r1, q1⟩ => ?_) ?_ (star_cons st)
    · refine thn ((pk_es kr).run p pins s1 σ H1 _ I1 q1) fun uw s2 ⟨ws, H2, I2, rz, q2⟩ => ⟨I2.kIn, ?_⟩
      rw [n2]
      exact fin I2 r1 rz q2
    · rw [n3, Bool.or_false]
      exact (SEs.cons st h' r').star p
theorem pe_call0O {x : Str} {f : Nat} {q p : Pos} (g : Good c G W X) (hot : c.hot = false) (hg : c.glo x = true) (hgf : c.nm.gf[f]? = some (some x)) :
    PE X (.Call (.Name x q) [] [] p) (fun σ H Q => CallP G W f [] σ [] [] H Q) := by
  obtain ⟨hc, hr, tk, hx, wd⟩ := g.calm hot
  obtain ⟨h1, h2, h3⟩ := glo_ok g hg
  obtain ⟨m1, m2⟩ := g.nmk.gf f x (by rw [← g.nm]; exact hgf)
  rw [← g.K] at m2
  refine ⟨fun pins s σ H Q I h => wpAny_Call_Name_kw (ld_glob I h1 m1 ?_ h2)⟩
  obtain ⟨fn, sh, e1, e2, e3, e4, e5, sp⟩ := h
  obtain ⟨fd, ps, hps, F, hsh⟩ := (wd.fn f fn e1).ok
  obtain ⟨vd, ud, S⟩ := hsh sh e2
  rw [← g.K] at F
  have b := S.bind s [] [] (g.K ▸ I.kIn) e3.symm (by rw [e4]; rfl)
  rw [e4] at b
  exact PySem.W.callWith_K0 I.kIn m2 (run_at F (hr.mono (by omega)) I.env0 tk I b (pick_vals _ S.rel .nil .nil) (sp vd S.dfl))

theorem evEs_len : ∀ {as : Es} {env : VE} {p : List D × VE}, evEs G.T G.call as env = .ok p → p.1.length = lenEs as
  | .nil, env, p, h => by rw [evEs] at h; cases h; rfl
  | .cons a as, env, p, h => by
    rw [evEs] at h
    cases h1 : evX G.T G.call false a env with
    | no => rw [h1] at h; cases h
    | ex c xs e => rw [h1] at h; cases h
    | ok q =>
      rw [h1] at h
      have h : (evEs G.T G.call as q.2).bind (fun r => Rr.ok (q.1 :: r.1, r.2)) = .ok p := h
      cases h2 : evEs G.T G.call as q.2 with
      | no => rw [h2] at h; cases h
      | ex c xs e => rw [h2] at h; cases h
      | ok r =>
        rw [h2] at h
        cases h
        show r.1.length + 1 = _
        rw [evEs_len h2]
        rfl
theorem SEs.len : ∀ {es : List Expr} {as : Es}, SEs G W X es as → lenEs as = es.length
  | _, _, .nil => rfl
  | _, _, .cons _ _ r => by show _ + 1 = _ + 1; rw [SEs.len r]
theorem SKs.len : ∀ {kws : List Keyword} {ks : List Str} {as : Es}, SKs G W X kws ks as → lenEs as = ks.length
  | _, _, _, .nil => rfl
  | _, _, _, .cons _ r => by show _ + 1 = _ + 1; rw [SKs.len r]
theorem D.fzs_len : ∀ (ds : List D), (D.fzs ds).length = ds.length
  | [] => rfl
  | d :: ds => by unfold D.fzs; simp [D.fzs_len ds]
/-- f(..) that changes nothing of ours -/
theorem call_rd {f : Nat} {es : List Expr} {as : Es} {kws : List Keyword} {ks : List Str} {kv : Es} {fn : FnI} (hf : G.T.fns[f]? = some fn) (hmu : fn.mu = false) (r : SEs G W X es as) (kr : SKs G W X kws ks kv) {σ : L2.St} {H : Hp} {Q : VK} {env : VE} {ow : Own} {Rs : Av} (es' : ES G.R H Rs env σ ow)
    (k : KR G.R W Rs (muEs G.T as || muEs G.T kv) ow H σ ((evEs G.T G.call as env).bind fun p => (evEs G.T G.call kv p.2).bind fun q => match findS (lenEs as) ks fn.shapes with
        | some s => match fillS s.src (D.fzs p.1) (D.fzs q.1) with
          | some ds => callR G.T G.call f ds q.2
          | none => .no
        | none => .no) (EK G.R Rs (muEs G.T as || muEs G.T kv) ow H σ Q)) : rdEs G W as σ H fun vs H1 => rdEs G W kv σ H1 fun ws H2 => CallP G W f ks σ vs ws H2 Q := by
  refine ⟨env, ow, Rs, es', (k.bind.le ma).imp fun p hp kp vs H1 ow1 os1 po1 r1 => ⟨p.2, ow1, Tm Rs os1, po1.es, (kp.bind.shift po1 ma mb).imp fun q hq kq ws H2 ow2 os2 po2 r2 => ?_⟩⟩
  have po := Po.seq (os := []) po1 po2 (by simp) (by simp)
  have r1' := po2.keeps po1.es r1 fun a ha => .inr ha
  -- all given up
  have ap1 : ∀ a ∈ os1, ¬ Avd ow2 (Tm Rs []) a := fun a ha z => by
    rcases z with z | z
    · exact po2.es.rs a (.inl (.inr ha)) z
    · exact po1.apart es' a ha (.inr (Tm.nil.mp z))
  have ap2 : ∀ a ∈ os2, ¬ Avd ow2 (Tm Rs []) a := fun a ha z => by
    rcases z with z | z
    · exact po2.es.rs a (.inr ha) z
    · exact po2.apart po1.es a ha (.inr (.inl (Tm.nil.mp z)))
  have lo : ∀ a, Avd ow2 (Tm Rs []) a → Avd ow2 (Tm (Tm Rs os1) os2) a := fun a q => by
    rcases q with q | q
    · exact .inl q
    · exact .inr (.inl (.inl (Tm.nil.mp q)))
  have f1 := r1'.freeze (fun a q => .inl (lo a q)) ap1
  have f2 := r2.freeze (fun a q => .inl (lo a q)) ap2
  split at kq
  · rename_i s hs
    split at kq
    · rename_i ds hds
      obtain ⟨hm, hn, hk⟩ := findS_mem hs
      have l1 : vs.length = lenEs as := by rw [r1.length, evEs_len hp]
      have l2 : ws.length = ks.length := by rw [r2.length, evEs_len hq, kr.len]
      refine ⟨fn, s, hf, hm, by rw [hn, l1], hk, l2, fun vd hd => ?_⟩
      have rs := fill_RPs (b := false) (fun j d _ e => f1.get0 e) (fun j d e => f2.get0 e) (fun z => by cases z) hd hds
      obtain ⟨fn', hf', _, sp⟩ := callR_sp po kq rs
      rw [hf] at hf'; cases hf'
      exact sp
    · exact kq.elim
  · exact kq.elim
end
end VS
set_option Elab.async false
set_option linter.all false
set_option maxRecDepth 100000
set_option maxHeartbeats 2000000
/-! VSr: calls that change a list of ours; new objects. -/
namespace VS
open PySem PySem.Spec PyProof.Rows L2
section
variable {R : Rt} {H H' : Hp} {Rs Rs' : Av} {env : VE} {σ : L2.St} {ow : Own} {os : List Addr}
/-- the store, where what is held besides may be the slot's own or new -/
theorem ES.put2 {S : Av} {i : Nat} {d' : D} {v' : V} (s : ES R H Rs env σ ow) (hi : i < env.length) (c : Chg S H H') (hS : ∀ a, S a → a ∈ ow i ∨ Rs a) 
    (h1 : ∀ a, Rs' a → (Rs a ∨ a ∈ ow i ∨ H a = none) ∧ ¬ a ∈ os ∧ H' a ≠ none) (hos : ∀ a ∈ os, a ∈ ow i ∨ Rs a ∨ H a = none) (hn : os.Nodup) (r : RP R H' (Avd (setO ow i os) Rs') d' v' os) : ES R H' Rs' (env.set i (some d')) (σ.set i (some v')) (setO ow i os) where
  len := by simp [s.len]
  rep := fun j d e => by
    by_cases hj : j = i
    · subst hj
      have : d = d' := by
        rw [List.getElem?_set_self hi] at e
        simpa using e.symm
      subst this
      exact ⟨v', List.getElem?_set_self (by rw [← s.len]; exact hi), by rw [setO_same]; exact r⟩
    · rw [List.getElem?_set_ne (Ne.symm hj)] at e
      obtain ⟨v, e1, r1⟩ := s.rep j d e
      refine ⟨v, by rw [List.getElem?_set_ne (Ne.symm hj)]; exact e1, ?_⟩
      rw [setO_ne hj]
      refine r1.chg c (fun a z => ?_) (fun a z => ?_) fun a ha z => ?_
      · rcases hS a z with y | y
        · exact .inl ⟨i, y⟩
        · exact .inr y
      · rcases z with z | z
        · rcases Ow_setO.mp z with y | ⟨k, _, y⟩
          · rcases hos a y with w | w | w
            · exact .inl (.inl ⟨i, w⟩)
            · exact .inl (.inr w)
            · exact .inr w
          · exact .inl (.inl ⟨k, y⟩)
        · rcases (h1 a z).1 with w | w | w
          · exact .inl (.inr w)
          · exact .inl (.inl ⟨i, w⟩)
          · exact .inr w
      · rcases hS a z with y | y
        · exact hj (s.dj j i a ha y)
        · exact s.rs a y ⟨j, ha⟩
  nil := fun j h => by
    by_cases hj : j = i
    · subst hj
      exact absurd (List.getElem?_set_self hi) (h d')
    · rw [setO_ne hj]
      exact s.nil j fun d e => h d (by rw [List.getElem?_set_ne (Ne.symm hj)]; exact e)
  nd := fun j => by
    by_cases hj : j = i
    · subst hj; rw [setO_same]; exact hn
    · rw [setO_ne hj]; exact s.nd j
  dj := fun j k a hj hk => by
    have key : ∀ m, m ≠ i → a ∈ ow m → a ∈ os → False := fun m hm h2 h3 => by
      rcases hos a h3 with w | w | w
      · exact hm (s.dj m i a h2 w)
      · exact s.rs a w ⟨m, h2⟩
      · obtain ⟨o, e, _⟩ := s.ow_some ⟨m, h2⟩
        rw [w] at e; cases e
    by_cases e1 : j = i
    · subst e1
      rw [setO_same] at hj
      by_cases e2 : k = j
      · exact e2.symm
      · rw [setO_ne e2] at hk
        exact (key k e2 hk hj).elim
    · rw [setO_ne e1] at hj
      by_cases e2 : k = i
      · subst e2
        rw [setO_same] at hk
        exact (key j e1 hj hk).elim
      · rw [setO_ne e2] at hk
        exact s.dj j k a hj hk
  rs := fun a q w => by
    obtain ⟨h2, h3, _⟩ := h1 a q
    rcases Ow_setO.mp w with y | ⟨k, hk, y⟩
    · exact h3 y
    · rcases h2 with z | z | z
      · exact s.rs a z ⟨k, y⟩
      · exact hk (s.dj k i a y z)
      · obtain ⟨o, e, _⟩ := s.ow_some ⟨k, y⟩
        rw [z] at e; cases e
  rt := fun a q => (h1 a q).2.2
end

/-- the first argument alone owns something -/
def one0 (os : List Addr) : Own := fun j => match j with
  | 0 => os
  | _ + 1 => []
theorem Ow_one0 {os : List Addr} {a : Addr} : Ow (one0 os) a ↔ a ∈ os := by
  constructor
  · rintro ⟨j, h⟩
    cases j with
    | zero => exact h
    | succ j => cases h
  · exact fun h => ⟨0, h⟩
section
variable {G : Wd} {W : WX} {X : Cx} {c : Ck}
/-- the promise of a def that may change its first argument, slot i's list -/
theorem mu_sp {Rs : Av} {ow ow1 : Own} {H H1 : Hp} {σ : L2.St} {env1 : VE} {m : Bool} {os1 : List Addr} {f : Nat} {fn : FnI} {xs ds : List D} {v : V} {vs : List V} {i : Nat} {Q : VK} (s0 : ES G.R H Rs env σ ow) (po : Po G.R Rs m ow H env1 σ ow1 os1 H1)
    (hmu : fn.mu = true) (hi : getV env1 i = some (.lst true xs)) (hv : σ[i]? = some (some v)) (r : RPs G.R H1 (Avd ow1 (Tm Rs os1)) ds vs os1) (hnp : vs.length + 1 = fn.np)
    (k : KR G.R W Rs true ow H σ (match G.call f (.lst true xs :: D.fzs ds) with
                | .ok d (some d') => .ok (d, setV env1 i d')
                | _ => .no) (EK G.R Rs true ow H σ Q)) : spC G f fn.np fn.mu (v :: vs) H1 Q (fun cls d H' => W cls d σ H') := by
  obtain ⟨hl, he⟩ := getV_lt hi
  obtain ⟨v', hv', r0⟩ := po.es.rep i _ he
  rw [hv] at hv'; cases hv'
  have fz := po.fzs s0 r
  refine ⟨.lst true xs :: D.fzs ds, one0 (ow1 i), fun a => Avd ow1 Rs a ∧ a ∉ ow1 i, by unfold argsOk; rw [hmu]; exact D.fzs_allFz ds, by simpa using hnp, ?_, ?_⟩
  · have owc : ∀ a, Ow (one0 (ow1 i)) a ↔ a ∈ ow1 i := fun a => Ow_one0
    have sub : ∀ a, Avd (one0 (ow1 i)) (fun a => Avd ow1 Rs a ∧ a ∉ ow1 i) a → Avd ow1 Rs a := fun a q => by
      rcases q with q | q
      · exact .inl ⟨i, (owc a).mp q⟩
      · exact q.1
    refine ⟨by simp [fz.length], fun j d e => ?_, fun j h => ?_, fun j => ?_, fun j l a h h' => ?_, fun a q w => q.2 ((owc a).mp w), fun a q => ?_⟩
    · cases j with
      | zero =>
        simp at e; subst e
        exact ⟨v, rfl, by exact r0.avoid fun a q => .inl ((sub a q).elim .inl fun q => .inr (.inl q))⟩
      | succ j =>
        have e' : (D.fzs ds)[j]? = some d := by
          simp only [List.map_cons, List.getElem?_cons_succ, List.getElem?_map] at e
          cases hd : (D.fzs ds)[j]? with
          | none => rw [hd] at e; cases e
          | some d' => rw [hd] at e; simpa using e
        obtain ⟨w, hw, rr⟩ := fz.get0 e'
        exact ⟨w, by simp [hw], by exact rr.avoid fun a q => .inl (sub a q)⟩
    · cases j with
      | zero => exact absurd rfl (h (.lst true xs))
      | succ j => rfl
    · cases j with
      | zero => exact po.es.nd i
      | succ j => exact List.nodup_nil
    · cases j with
      | zero =>
        cases l with
        | zero => rfl
        | succ l => cases h'
      | succ j => cases h
    · rcases q.1 with z | z
      · obtain ⟨o, e, _⟩ := po.es.ow_some z
        rw [e]; simp
      · exact po.es.rt a (.inl z)
  · have owc : ∀ a, Ow (one0 (ow1 i)) a ↔ a ∈ ow1 i := fun a => Ow_one0
    split
    · rename_i d fin hd
      rw [hd] at k
      cases fin with
      | none => exact k.elim
      | some d' =>
        intro u H' ow' os env' p hfin ru
        have e0 := hfin d' rfl
        obtain ⟨w0, hw0, rd⟩ := p.es.rep 0 d' e0
        simp at hw0
        subst hw0
        have cg : Chg (fun a => a ∈ ow1 i) H1 H' := ⟨fun a o e z => p.fr a o e fun _ q => z ((owc a).mp q), fun a o z e => by
          obtain ⟨o', e', mm⟩ := r0.own a z
          rw [e] at e'; cases e'; exact mm⟩
        have inc : ∀ a, Avd (setO ow1 i (ow' 0)) (Tm Rs os) a → Avd ow' (Tm (fun a => Avd ow1 Rs a ∧ a ∉ ow1 i) os) a := fun a q => by
          rcases q with q | q | q
          · rcases Ow_setO.mp q with z | ⟨j, hj, z⟩
            · exact .inl ⟨0, z⟩
            · exact .inr (.inl ⟨.inl ⟨j, z⟩, fun y => hj (po.es.dj j i a z y)⟩)
          · exact .inr (.inl ⟨.inr q, fun y => po.es.rs a (.inl q) ⟨i, y⟩⟩)
          · exact .inr (.inr q)
        have nw : ∀ a, a ∈ ow' 0 ∨ a ∈ os → a ∈ ow1 i ∨ H1 a = none := fun a q => by
          rcases q with q | q
          · exact (p.new a (.inl ⟨0, q⟩)).imp (owc a).mp id
          · exact (p.new a (.inr q)).imp (owc a).mp id
        have P := ES.put2 (S := fun a => a ∈ ow1 i) (H' := H') (Rs' := Tm Rs os) (os := ow' 0) (d' := d') (v' := v) po.nil.es hl cg (fun a z => .inl z) (fun a q => by
          rcases q with q | q
          · exact ⟨.inl (.inl q), fun z => p.es.rs a (.inl ⟨.inr q, fun y => po.es.rs a (.inl q) ⟨i, y⟩⟩) ⟨0, z⟩, p.es.rt a (.inl ⟨.inr q, fun y => po.es.rs a (.inl q) ⟨i, y⟩⟩)⟩
          · exact ⟨.inr (nw a (.inr q)), fun z => p.es.rs a (.inr q) ⟨0, z⟩, p.es.rt a (.inr q)⟩) (fun a q => (nw a (.inl q)).imp id .inr) (p.es.nd 0) (rd.avoid fun a q => .inl (inc a q))
        rw [set_same hv] at P
        have old : ∀ a, a ∈ ow1 i ∨ H1 a = none → Ow ow a ∨ H a = none := fun a q => by
          rcases q with q | q
          · exact po.new a (.inl ⟨i, q⟩)
          · right
            cases e : H a with
            | none => rfl
            | some o => exact absurd q (po.trk a (by rw [e]; simp))
        refine k u H' (setO ow1 i (ow' 0)) os ⟨P, fun a q => ?_, fun a o e q => ?_, fun a q => p.trk a (po.trk a q), p.nd⟩ (ru.avoid fun a q => .inl (inc a q))
        · rcases q with q | q
          · rcases Ow_setO.mp q with z | ⟨j, _, z⟩
            · exact old a (nw a (.inl z))
            · exact po.new a (.inl ⟨j, z⟩)
          · exact old a (nw a (.inr q))
        · refine p.fr a o (po.fr a o e fun _ => q rfl) fun _ z => ?_
          rcases po.new a (.inl ⟨i, (owc a).mp z⟩) with y | y
          · exact q rfl y
          · rw [e] at y; cases y
    · rename_i hd
      rw [hd] at k
      exact k.elim
    · rename_i hd
      rw [hd] at k
      exact k
theorem triv_call {f : Nat} {fn : FnI} {vs : List V} {σ : L2.St} {H : Hp} {Q : VK} (hf : G.T.fns[f]? = some fn) (ht : hasTriv fn vs.length = true) (sp : spC G f fn.np fn.mu vs H Q (fun cls d H' => W cls d σ H')) : CallP G W f [] σ vs [] H Q := by
  unfold hasTriv at ht
  split at ht
  · rename_i s hs
    obtain ⟨hm, hn, hk⟩ := findS_mem hs
    simp only [Bool.and_eq_true, decide_eq_true_eq] at ht
    exact ⟨fn, s, hf, hm, hn, hk, rfl, fun vd _ => by rw [pick_triv _ _ 0 _ _ _ ht.1 (by omega)]; exact sp⟩
  · cases ht
theorem s_call (g : Good c G W X) (hot : c.hot = false) {x : Str} {f : Nat} {es : List Expr} {as : Es} {kws : List Keyword} {ks : List Str} {kv : Es} {q p : Pos} (hg : c.glo x = true) (hgf : c.nm.gf[f]? = some (some x)) (r : SEs G W X es as) (kr : SKs G W X kws ks kv) (hne : 0 < es.length ∨ kws.length = 0)
    (hvar : ∀ i es', as = .cons (.var i) es' → ∃ e r, es = e :: r ∧ PE X e (tVar i) ∧ isStar e = false ∧ SEs G W X r es') : SE G W X (.Call (.Name x q) es kws p) (.call f as ks kv) := by
  have pe : PE X (.Call (.Name x q) es kws p) (rdE G W (.call f as ks kv)) := by
    cases hf : G.T.fns[f]? with
    | none =>
      exact PEnone fun σ H Q ⟨env, ow, Rs, es, k⟩ => by
        rw [evX] at k
        rw [hf] at k
        exact k
    | some fn =>
      have hm : muE G.T (.call f as ks kv) = (fn.mu || muEs G.T as || muEs G.T kv) := by rw [muE, hf]
      cases hmu : fn.mu with
      | false =>
        have step : ∀ {σ H Q}, rdE G W (.call f as ks kv) σ H Q → rdEs G W as σ H fun vs H1 => rdEs G W kv σ H1 fun ws H2 => CallP G W f ks σ vs ws H2 Q := fun {σ H Q} ⟨env, ow, Rs, es', k⟩ => by
          rw [evX, hm, hmu, Bool.false_or] at k
          rw [hf] at k
          have k : KR G.R W Rs (muEs G.T as || muEs G.T kv) ow H σ (if fn.mu then _ else _) _ := k
          rw [hmu] at k
          exact call_rd hf hmu r kr es' k
        cases r with
        | nil =>
          cases kr with
          | nil =>
            refine PEimp (pe_call0O g hot hg hgf) fun σ H Q h => ?_
            obtain ⟨env, ow, Rs, es, k⟩ := step h
            rw [evEs] at k
            obtain ⟨env, ow, Rs, es, k⟩ := k [] H ow [] (Po.refl es) RPs.nil
            rw [evEs] at k
            exact k [] H ow [] (Po.refl es) RPs.nil
          | cons _ _ => rcases hne with z | z <;> simp at z
        | cons st h r' => exact PEimp (pe_callO g hot hg hgf (.cons st h r') kr (by simp) (pa_es (.cons st h r'))) fun σ H Q h => step h
      | true =>
        have no : (∀ i es', as = .cons (.var i) es' → ks = [] → kv = .nil → False) → PE X (.Call (.Name x q) es kws p) (rdE G W (.call f as ks kv)) := fun hh => PEnone fun σ H Q ⟨env, ow, Rs, es, k⟩ => by
          rw [evX] at k
          rw [hf] at k
          simp only [fin, Bool.false_eq_true, if_false, hmu, if_true] at k
          exact k
        cases as with
        | nil => exact no fun i es' e => by cases e
        | cons a as' =>
          cases a
          case var i =>
            cases kr with
            | cons _ _ => exact no fun i es' _ e => by cases e
            | nil =>
              obtain ⟨e, r', rfl, hx, st, rs⟩ := hvar i as' rfl
              refine PEimp (pe_callO (kv := .nil) g hot hg hgf r .nil (by simp) (pa_cons hx (pa_es rs) (star_cons st))) fun σ H Q ⟨env, ow, Rs, es, k⟩ => ?_
              have hm2 : muE G.T (.call f (.cons (.var i) as') [] .nil) = true := by rw [hm, hmu]; rfl
              rw [evX, hm2] at k
              rw [hf] at k
              have k : KR G.R W Rs true ow H σ (if fn.mu then (if (getV env i).isNone then .no else (evEs G.T G.call as' env).bind fun p => if hasTriv fn (p.1.length + 1) && decide (p.1.length + 1 = fn.np) then
                (match getV p.2 i with
                | some (.lst true xs) => match G.call f (.lst true xs :: D.fzs p.1) with
                  | .ok d (some d') => .ok (d, setV p.2 i d')
                  | _ => .no
                | _ => .no)
                else .no) else _) (EK G.R Rs true ow H σ Q) := k
              rw [hmu] at k
              simp only [if_true] at k
              split at k
              · exact k.elim
              · rename_i hsome
                cases hg0 : getV env i with
                | none => rw [hg0] at hsome; exact absurd rfl hsome
                | some d0 =>
                  obtain ⟨v, hv, _⟩ := env_get es hg0
                  refine ⟨v, hv, env, ow, Rs, es, (k.bind.le fun _ => rfl).imp fun p hp kp vs H1 ow1 os1 po1 r1 => ?_⟩
                  split at kp
                  · rename_i hc
                    simp only [Bool.and_eq_true, decide_eq_true_eq] at hc
                    split at kp
                    · rename_i xs hxs
                      refine ⟨p.2, ow1, Tm Rs os1, po1.es, ?_⟩
                      rw [evEs]
                      intro ws H2 ow2 os2 po2 r2
                      unfold RPs at r2
                      obtain ⟨rfl, rfl⟩ := r2
                      have po := Po.seq (os := os1) po1 po2 (fun a h => .inl h) po1.nd
                      have r1' := po2.keeps po1.es r1 fun a ha => .inr ha
                      refine triv_call hf (by simpa [r1.length] using hc.1) (mu_sp es po hmu hxs hv (r1'.avoid fun a q => .inl ?_) (by rw [r1.length]; exact hc.2) kp)
                      rcases q with q | q
                      · exact .inl q
                      · exact .inr (.inl q)
                    · exact kp.elim
                  · exact kp.elim
          all_goals exact no fun i es' e => by cases e
  exact ⟨pe, pt_gen g.K pe (fun _ => rfl) (fun env => by rw [evX, evX]; rfl), no_p fun _ => by unfold peek; rfl, no_s fun _ => by unfold smp; rfl⟩
end
end VS
set_option Elab.async false
set_option linter.all false
set_option maxRecDepth 100000
set_option maxHeartbeats 2000000
/-! VSs: new objects; fields of a caught exception. -/
namespace VS
open PySem PySem.Spec PyProof.Rows L2
section
variable {R : Rt} {H : Hp} {A : Av}
mutual
theorem RP.isFz_of : ∀ {d : D} {v : V}, RP R H A d v [] → d.isFz = true
  | .non, _, _ => rfl
  | .bl _, _, _ => rfl
  | .int _, _, _ => rfl
  | .str _, _, _ => rfl
  | .cls _, _, _ => rfl
  | .ty _, _, _ => rfl
  | .rng _ _, _, _ => rfl
  | .tup xs, v, h => by
    unfold RP at h; unfold D.isFz
    obtain ⟨_, a, vs, _, _, r⟩ := h
    exact RPs.allFz_of r
  | .exv c xs, v, h => by
    unfold RP at h; unfold D.isFz
    obtain ⟨_, a, dd, vs, _, _, _, _, r⟩ := h
    exact RPs.allFz_of r
  | .lst true xs, v, h => by
    unfold RP at h
    simp only [if_true] at h
    obtain ⟨a, vs, os', _, e, _⟩ := h
    cases e
  | .lst false xs, v, h => by
    unfold RP at h; unfold D.isFz
    simp only [Bool.false_eq_true, if_false] at h
    obtain ⟨_, a, vs, _, _, r⟩ := h
    rw [RPs.allFz_of r]; rfl
  | .obj true c xs, v, h => by
    unfold RP at h
    simp only [if_true] at h
    obtain ⟨a, dx, vs, os', _, e, _⟩ := h
    cases e
  | .obj false c xs, v, h => by
    unfold RP at h; unfold D.isFz
    simp only [Bool.false_eq_true, if_false] at h
    obtain ⟨_, a, dx, vs, _, _, _, _, r⟩ := h
    rw [RPs.allFz_of r]; rfl
theorem RPs.allFz_of : ∀ {ds : List D} {vs : List V}, RPs R H A ds vs [] → D.allFz ds = true
  | [], _, _ => rfl
  | d :: ds, vs, h => by
    unfold RPs at h; unfold D.allFz
    obtain ⟨v, vs', o1, o2, _, e, h1, h2⟩ := h
    obtain ⟨e1, e2⟩ := List.append_eq_nil_iff.mp e.symm
    subst e1 e2
    rw [RP.isFz_of h1, RPs.allFz_of h2]; rfl
end
end
section
variable {G : Wd} {W : WX} {X : Cx} {c : Ck}
/-- arguments, all given up -/
theorem args_ok {as kv : Es} {ks : List Str} {kws : List Keyword} (kr : SKs G W X kws ks kv) {σ : L2.St} {H : Hp} {Q : VK} {env : VE} {ow : Own} {Rs : Av} (es' : ES G.R H Rs env σ ow) {F : List D × VE → List D × VE → Rr (D × VE)} {Z : List V → List V → Hp → Prop}
    (k : KR G.R W Rs (muEs G.T as || muEs G.T kv) ow H σ ((evEs G.T G.call as env).bind fun p => (evEs G.T G.call kv p.2).bind fun q => F p q) (EK G.R Rs (muEs G.T as || muEs G.T kv) ow H σ Q))
    (hF : ∀ p q vs ws H2 ow2, Po G.R Rs (muEs G.T as || muEs G.T kv) ow H q.2 σ ow2 [] H2 → RPs G.R H2 (Avd ow2 (Tm Rs [])) (D.fzs p.1) vs [] → RPs G.R H2 (Avd ow2 (Tm Rs [])) (D.fzs q.1) ws [] → vs.length = lenEs as → ws.length = ks.length →
      KR G.R W Rs (muEs G.T as || muEs G.T kv) ow H σ (F p q) (EK G.R Rs (muEs G.T as || muEs G.T kv) ow H σ Q) → Z vs ws H2) : rdEs G W as σ H fun vs H1 => rdEs G W kv σ H1 fun ws H2 => Z vs ws H2 := by
  refine ⟨env, ow, Rs, es', (k.bind.le ma).imp fun p hp kp vs H1 ow1 os1 po1 r1 => ⟨p.2, ow1, Tm Rs os1, po1.es, (kp.bind.shift po1 ma mb).imp fun q hq kq ws H2 ow2 os2 po2 r2 => ?_⟩⟩
  have po := Po.seq (os := []) po1 po2 (by simp) (by simp)
  have r1' := po2.keeps po1.es r1 fun a ha => .inr ha
  have ap1 : ∀ a ∈ os1, ¬ Avd ow2 (Tm Rs []) a := fun a ha z => by
    rcases z with z | z
    · exact po2.es.rs a (.inl (.inr ha)) z
    · exact po1.apart es' a ha (.inr (Tm.nil.mp z))
  have ap2 : ∀ a ∈ os2, ¬ Avd ow2 (Tm Rs []) a := fun a ha z => by
    rcases z with z | z
    · exact po2.es.rs a (.inr ha) z
    · exact po2.apart po1.es a ha (.inr (.inl (Tm.nil.mp z)))
  have lo : ∀ a, Avd ow2 (Tm Rs []) a → Avd ow2 (Tm (Tm Rs os1) os2) a := fun a q => by
    rcases q with q | q
    · exact .inl q
    · exact .inr (.inl (.inl (Tm.nil.mp q)))
  exact hF p q vs ws H2 ow2 po (r1'.freeze (fun a q => .inl (lo a q)) ap1) (r2.freeze (fun a q => .inl (lo a q)) ap2) (by rw [r1.length, evEs_len hp]) (by rw [r2.length, evEs_len hq, kr.len]) kq

/-! ### new objects -/
def NewP (G : Wd) (W : WX) (k : Nat) (ks : List Str) (σ : L2.St) (vs ws : List V) (H : Hp) (Q : VK) : Prop :=
  ∃ cl f fn sh, G.T.cls[k]? = some cl ∧ cl.ex = false ∧ cl.init = some f ∧ G.T.fns[f]? = some fn ∧ sh ∈ fn.shapes ∧ sh.n = vs.length + 1 ∧ sh.ks = ks ∧ ws.length = ks.length ∧ ∀ vd, DflOk G.R sh.src vd → ∀ x dx, H x = none → H dx = none → dx ≠ x →
    spC G f fn.np fn.mu (pickX .non sh.src vd (.ref x :: vs) ws) (upd (upd H dx (.own x)) x (.ins (G.R.ca k) dx [])) (fun v H3 => v = .non ∧ Q (.ref x) H3) (fun cls d H' => W cls d σ H')
theorem pe_newO {x : Str} {k : Nat} {es : List Expr} {as : Es} {kws : List Keyword} {ks : List Str} {kv : Es} {q p : Pos} (g : Good c G W X) (hot : c.hot = false) (hg : c.glo x = true) (hgc : c.nm.gc[k]? = some (some x)) (r : SEs G W X es as) (kr : SKs G W X kws ks kv) (hne : 0 < es.length) :
    PE X (.Call (.Name x q) es kws p) (fun σ H Q => rdEs G W as σ H fun vs H1 => rdEs G W kv σ H1 fun ws H2 => NewP G W k ks σ vs ws H2 Q) := by
  obtain ⟨hc, hr, tk, hx, wd⟩ := g.calm hot
  obtain ⟨h1, h2, h3⟩ := glo_ok g hg
  obtain ⟨m1, kp⟩ := g.nmk.gc k x (by rw [← g.nm]; exact hgc)
  rw [← g.K] at kp
  refine ⟨fun pins s σ H Q I h => wpAny_Call_Name_kw (ld_glob I h1 m1 ?_ h2)⟩
  obtain ⟨n1, n2, n3⟩ := kr.names p
  cases r with
  | nil => simp at hne
  | cons st h' r' =>
    have hex : ∀ cl, G.T.cls[k]? = some cl → cl.ex = false → ∀ f, cl.init = some f → Mk X.K (G.R.ca k) (G.fa f) := fun cl e1 e2 f e3 => by rw [g.K]; exact (wd.cl k cl e1).make e2 f e3
    refine PySem.W.callWith_KW (h₀ := X.base) I.ok.mod.kin kp n1 (thn ((pa_es (.cons st h' r')).run p pins s σ H _ I h) fun us s1 ⟨vs, H1, I1, r1, q1⟩ => ?_) (by rw [n3, Bool.or_false]; exact (SEs.cons st h' r').star p) (star_cons st)
    refine thn ((pk_es kr).run p pins s1 σ H1 _ I1 q1) fun uw s2 ⟨ws, H2, I2, rz, q2⟩ => ⟨I2.kIn, ?_⟩
    rw [n2]
    obtain ⟨cl, f, fn, sh, e1, e2, e3, e4, e5, e6, e7, e8, sp⟩ := q2
    obtain ⟨fd, ps, hps, F, hsh⟩ := (wd.fn f fn e4).ok
    obtain ⟨vd, ud, S⟩ := hsh sh e5
    rw [← g.K] at F
    have M := hex cl e1 e2 f e3
    have hq := sp vd S.dfl (s2.heap.objs.size + 1) s2.heap.objs.size (I2.hok.fresh (Nat.le_succ _)) (I2.hok.fresh (Nat.le_refl _)) (Nat.ne_of_lt (Nat.lt_succ_self _))
    have I3 := Inv.made (C := G.R.ca k) I2
    have rr : Vals (V.ref (s2.heap.objs.size + 1) :: vs) (Value.ref (s2.heap.objs.size + 1) :: us) := .cons (show L2.RelV (.ref _) (.ref _) from rfl) r1
    have b := S.bind { s2 with heap := (s2.heap.push PySem.W.emptyDict).push (PySem.W.instObj (G.R.ca k) s2.heap.objs.size) } (Value.ref (s2.heap.objs.size + 1) :: us) uw (g.K ▸ I3.kIn) (by rw [e6]; simp [r1.length]) (by rw [← rz.length, e7, e8])
    rw [e7] at b
    have hr1 : Room (G.k + 1) X.A := hr.mono (by omega)
    refine wpAny_call (make_map (f := G.fa f) I2.kIn M.makes M.init (beq_iff_eq.mp M.fn) (codeAny_mono (F.run _ X.stack _ _ ⟨Value.ref (s2.heap.objs.size + 1) :: us, ks.zip uw⟩ _ _ _ _ (hr1.make (G.R.ca k) us (ks.zip uw))
      (I3.env0.make (G.R.ca k) us (ks.zip uw)) b (pick_vals _ S.rel rr rz) hq) fun r s' hq' => ?_))
    cases r with
    | error e => exact passAt tk σ pins _ _ e s' I3 hq'
    | ok fl =>
      cases fl with
      | ret u =>
        obtain ⟨v, H', I4, rv, ev, q3⟩ := I3.after hq'
        subst ev
        exact ⟨rv, ⟨V.ref (s2.heap.objs.size + 1), H', I4, rfl, q3⟩⟩
      | next => exact False.elim hq'
      | brk => exact False.elim hq'
      | cont => exact False.elim hq'
theorem s_new (g : Good c G W X) (hot : c.hot = false) {x : Str} {k : Nat} {es : List Expr} {as : Es} {kws : List Keyword} {ks : List Str} {kv : Es} {q p : Pos} (hg : c.glo x = true) (hgc : c.nm.gc[k]? = some (some x)) (r : SEs G W X es as) (kr : SKs G W X kws ks kv) (hne : 0 < es.length) :
    SE G W X (.Call (.Name x q) es kws p) (.new k as ks kv) := by
  obtain ⟨hc, hr, tk, hx, wd⟩ := g.calm hot
  have hm : muE G.T (.new k as ks kv) = (muEs G.T as || muEs G.T kv) := by rw [muE]
  have pe : PE X (.Call (.Name x q) es kws p) (rdE G W (.new k as ks kv)) := PEimp (pe_newO g hot hg hgc r kr hne) fun σ H Q ⟨env, ow, Rs, es', kk⟩ => by
    rw [evX, hm] at kk
    refine args_ok (Z := fun vs ws H2 => NewP G W k ks σ vs ws H2 Q) kr es' kk fun p q vs ws H2 ow2 po f1 f2 l1 l2 kq => ?_
    split at kq
    · exact kq.elim
    · rename_i cl hcl
      split at kq
      · exact kq.elim
      · rename_i f hf
        split at kq
        · exact kq.elim
        · rename_i fn hfn
          split at kq
          · rename_i sh hsh
            split at kq
            · rename_i hcond
              simp only [Bool.and_eq_true, Bool.not_eq_true'] at hcond
              obtain ⟨hmu, hself, hex⟩ := hcond
              split at kq
              · rename_i ds hds
                split at kq
                · exact kq.elim
                · rename_i hlen
                  obtain ⟨hmem, hn, hks⟩ := findS_mem hsh
                  refine ⟨cl, f, fn, sh, hcl, hex, hf, hfn, hmem, by rw [hn, l1], hks, l2, fun vd hvd x dx hx0 hdx hne' => ?_⟩
                  have hk := (wd.cl k cl hcl).nc.mp hex
                  -- the parameters: self first
                  cases hsrc : sh.src with
                  | nil => rw [hsrc] at hself; cases hself
                  | cons s0 rest =>
                    cases s0 with
                    | kw j => rw [hsrc] at hself; cases hself
                    | dfl j => rw [hsrc] at hself; cases hself
                    | pos j =>
                      rw [hsrc] at hself hds hvd
                      unfold selfS at hself
                      simp only [Bool.and_eq_true, decide_eq_true_eq] at hself
                      obtain ⟨rfl, hns⟩ := hself
                      unfold fillS at hds
                      obtain ⟨d0, hd0, hds⟩ := Option.bind_eq_some_iff.mp hds
                      simp only [List.getElem?_cons_zero, Option.some.injEq] at hd0
                      subst hd0
                      obtain ⟨dr, hdr, rfl⟩ := Option.map_eq_some_iff.mp hds
                      have rr := fill_RPs (b := true) (R := G.R) (H := H2) (A := Avd ow2 (Tm Rs [])) (ps := D.obj true k [] :: D.fzs p.1) (ks := D.fzs q.1) (pv := V.ref x :: vs) (kv := ws) (fun j d hj e => by
                        cases j with
                        | zero => exact absurd rfl (hj rfl)
                        | succ j => exact f1.get0 (by simpa using e)) (fun j d e => f2.get0 e) (fun _ => hns) hvd.tail hdr
                      have hpick : pickX V.non (.pos 0 :: rest) vd (V.ref x :: vs) ws = V.ref x :: pickX V.non rest vd.tail (V.ref x :: vs) ws := by
                        rw [pickX]; rfl
                      rw [hpick]
                      generalize pickX V.non rest vd.tail (V.ref x :: vs) ws = vr at rr
                      have g1 : Gr H2 (upd (upd H2 dx (.own x)) x (.ins (G.R.ca k) dx [])) := (Gr.new (o := .own x) hdx).trans (Gr.new (by rw [upd_ne (Ne.symm hne')]; exact hx0))
                      have hlen' : (D.obj true k [] :: dr).length = fn.np := by
                        rcases Nat.decEq (D.obj true k [] :: dr).length fn.np with z | z
                        · exact absurd z hlen
                        · exact z
                      have rsn : ∀ a, Avd ow2 (Tm Rs []) a → H2 a ≠ none := fun a z => by
                        rcases z with z | z
                        · obtain ⟨o, e, _⟩ := po.es.ow_some z
                          rw [e]; simp
                        · exact po.es.rt a z
                      have rsx : ∀ a, Avd ow2 (Tm Rs []) a → a ≠ x := fun a z e => rsn a z (by rw [e]; exact hx0)
                      refine ⟨D.obj true k [] :: dr, one0 [x], Avd ow2 (Tm Rs []), by unfold argsOk; rw [hmu]; exact rr.allFz_of, by rw [← hlen']; simp [rr.length], ?_, ?_⟩
                      · refine ⟨by simp [rr.length], fun j d e => ?_, fun j h => ?_, fun j => ?_, fun j l a h h' => ?_, fun a q' w => rsx a q' (by simpa using Ow_one0.mp w), fun a q' => ?_⟩
                        · cases j with
                          | zero =>
                            simp at e; subst e
                            refine ⟨.ref x, rfl, ?_⟩
                            unfold RP
                            simp only [if_true]
                            exact ⟨x, dx, [], [], rfl, rfl, by rw [upd_same, List.zip_nil_right], ⟨Nat.zero_le _, hk⟩, RPs.nil⟩
                          | succ j =>
                            have e' : dr[j]? = some d := by
                              simp only [List.map_cons, List.getElem?_cons_succ, List.getElem?_map] at e
                              cases hd : dr[j]? with
                              | none => rw [hd] at e; cases e
                              | some d' => rw [hd] at e; simpa using e
                            obtain ⟨w, hw, rw'⟩ := rr.get0 e'
                            refine ⟨w, by simp [hw], ?_⟩
                            exact rw'.grow g1 fun a q' => by
                              rcases q' with q' | q'
                              · have := Ow_one0.mp q'
                                simp only [List.mem_singleton] at this
                                subst this; exact .inr hx0
                              · exact .inl q'
                        · cases j with
                          | zero => exact absurd rfl (h (.obj true k []))
                          | succ j => rfl
                        · cases j with
                          | zero => exact (by simp [one0])
                          | succ j => exact List.nodup_nil
                        · cases j with
                          | zero =>
                            cases l with
                            | zero => rfl
                            | succ l => cases h'
                          | succ j => cases h
                        · cases e : H2 a with
                          | none => exact absurd e (rsn a q')
                          | some o => rw [g1 a o e]; simp
                      · have grow : ∀ {H' : Hp} {env' : VE} {ow' : Own} {os : List Addr} {σ' : L2.St}, Po G.R (Avd ow2 (Tm Rs [])) fn.mu (one0 [x]) (upd (upd H2 dx (.own x)) x (.ins (G.R.ca k) dx [])) env' σ' ow' os H' → Gr H2 H' := fun pp a o e => by
                          refine pp.fr a o (g1 a o e) fun _ z => ?_
                          have := Ow_one0.mp z
                          simp only [List.mem_singleton] at this
                          subst this
                          rw [hx0] at e; cases e
                        split
                        · rename_i d fin hd
                          rw [hd] at kq
                          intro v H' ow' os env' pp hfin rv
                          split at kq
                          · rename_i d' heq
                            cases heq
                            refine ⟨rv.non, kq (.ref x) H' ow2 [] (po.grow (grow pp) (by simp) (by simp)) ?_⟩
                            obtain ⟨w0, hw0, rd⟩ := pp.es.rep 0 d' (hfin d' rfl)
                            simp at hw0
                            subst hw0
                            exact rd.freeze (fun a q' => .inl (.inr (.inl q'))) fun a ha q' => pp.es.rs a (.inl q') ⟨0, ha⟩
                          · rename_i heq; cases heq
                          · exact kq.elim
                        · rename_i c' xs hd
                          rw [hd] at kq
                          intro H' dd env' ow' pp x'
                          exact kq H' ow2 dd (po.grow (grow pp) (by simp) (by simp)) (x'.less fun a q' => by
                            rcases q' with q' | q'
                            · exact .inr (.inl q')
                            · exact .inr (.inr (Tm.nil.mpr q')))
                        · rename_i hd
                          rw [hd] at kq
                          exact kq
              · exact kq.elim
            · exact kq.elim
          · exact kq.elim
  exact ⟨pe, pt_gen g.K pe (fun _ => rfl) (fun env => by rw [evX, evX]; rfl), no_p fun _ => by unfold peek; rfl, no_s fun _ => by unfold smp; rfl⟩
end
end VS
set_option Elab.async false
set_option linter.all false
set_option maxRecDepth 100000
set_option maxHeartbeats 2000000
/-! VSt: enumerate(tuple). -/
namespace VS
open PySem PySem.Spec PyProof.Rows L2
open AutoSeq1 (wpAny_loadPart')
theorem meets_enumT (l : Addr) (items : Array Value) (n : Nat) (dct : Option Addr) (sl : Array (Option Value)) :
    Meets (Builtin.«enumerate.__new__» ⟨[.type "enumerate", .ref l], []⟩) (fun _ R s => s.heap.get? l = some { cls := .type "tuple", dict := dct, data := .seq items n, slots := sl } ∧
      R (.ok (.ret (.ref (s.heap.push { cls := .type "tuple_iterator", data := .fields #[.ref l, .int 0 0] }).objs.size)))
        { s with heap := (s.heap.push { cls := .type "tuple_iterator", data := .fields #[.ref l, .int 0 0] }).push { cls := .type "enumerate", data := .fields #[.none, .bool false, .ref s.heap.objs.size, rawInt 0, .none, .none] } }) :=
  .of_wp fun prog w A R s h => by
    obtain ⟨hp, g, d, tk, os⟩ := s; obtain ⟨hl, h⟩ := h
    have hsub := sub_enumerate
    have hL : Heap.IsTuple (Shared.heap ⟨hp, g, d, tk, os⟩) l items := ⟨_, hl, rfl, n, rfl⟩
    wp_walk using wpAny_loadPart' hl
    refine wpAny_stack_any fun st => wpAny_pure ?_
    split
    · rename_i c _ _ _ _ _
      cases (c == Value.type "enumerate")
      · wp_walk using wpAny_loadPart' hl, wpAny_pyIter_tuple hL
        exact ⟨_, rfl, h⟩
      · wp_walk using wpAny_loadPart' hl, wpAny_pyIter_tuple hL
        exact ⟨_, rfl, h⟩
    · wp_walk using wpAny_loadPart' hl, wpAny_pyIter_tuple hL
      exact ⟨_, rfl, h⟩
section
variable {prog : Program} {w : World} {A : Around} {E : Value → Shared → Prop} {s : Shared}
theorem call_enumT {l : Addr} {items : Array Value} {Q : Value → Shared → Prop} (hL : s.heap.IsTuple l items)
    (h : ∀ h', IsEnum h' (s.heap.objs.size + 1) s.heap.objs.size 0 .none → h'.IsTupleIter s.heap.objs.size l 0 → h'.objs.size = s.heap.objs.size + 2 →
      (∀ b o, s.heap.get? b = some o → h'.get? b = some o) → Q (.ref (s.heap.objs.size + 1)) { s with heap := h' }) :
    wpAny (model prog w) A (call (.type "enumerate") [.ref l]) Q E s := by
  obtain ⟨⟨c, dct, dt, sl⟩, hl, hc, n, hd⟩ := hL
  simp only at hc hd
  subst hc hd
  refine callType_new F.called_enumerate (by decide) (F.typeCall_enumerate_1 _) (F.newCall_enumerate_1 _) (fun obj => F.args_object_init_2 obj _) F.entry_enumerate_new
    (meets_enumT l items n dct sl) ⟨hl, ?_⟩
  have hz : (s.heap.push { cls := .type "tuple_iterator", data := .fields #[.ref l, .int 0 0] }).objs.size = s.heap.objs.size + 1 := Heap.size_push ..
  show _ ∧ _
  rw [hz]
  have he : IsEnum ((s.heap.push { cls := .type "tuple_iterator", data := .fields #[.ref l, .int 0 0] }).push
      { cls := .type "enumerate", data := .fields #[.none, .bool false, .ref s.heap.objs.size, rawInt 0, .none, .none] }) (s.heap.objs.size + 1) s.heap.objs.size 0 .none := by
    have := Heap.get?_push_size (s.heap.push { cls := .type "tuple_iterator", data := .fields #[.ref l, .int 0 0] })
      (o := { cls := .type "enumerate", data := .fields #[.none, .bool false, .ref s.heap.objs.size, rawInt 0, .none, .none] }) rfl
    rw [hz] at this; exact this
  exact ⟨⟨_, he, rfl⟩, h _ he ⟨_, Heap.get?_push_of_some _ (Heap.get?_push_size _ rfl), rfl, rfl⟩ (by rw [Heap.size_push, hz]) fun b o x => Heap.get?_push_of_some _ (Heap.get?_push_of_some _ x)⟩
end

/-- the tuple at a, each item in a new pair -/
def IteT (K : PySem.W.Frag) (a : Addr) : It :=
  ⟨fun i H => ∃ (xs : List V) (x : V), SqT K H a xs ∧ xs[i]? = some x, fun i H v H' => ∃ T x, v = .ref T ∧ H T = none ∧ H' = upd H T (.tup [.int (i : Nat), x]) ∧ ∀ xs, SqT K H a xs → xs[i]? = some x, fun i H => ∃ xs : List V, SqT K H a xs ∧ xs.length = i⟩
theorem turn_enumT {P : Program} {w : World} {K : PySem.W.Frag} {elts : List Expr} {kk : Nat} {tpos : Pos} (a e it : Addr) (hae : a ≠ e) (hai : a ≠ it) :
    Turn P w K (.Tuple elts kk tpos) (IteT K a) [e, it] e (fun i h => (∃ old, IsEnum h e it ((i : Nat) : Int) old) ∧ h.IsTupleIter it a i ∧ e ≠ it) where
  mem := by simp
  obj := fun i h st b hb => by
    obtain ⟨⟨old, he⟩, ⟨o, ho, hc, hd⟩, _⟩ := st
    have e' : b = e ∨ b = it := by simpa using hb
    rcases e' with z | z
    · rw [z]; exact ⟨_, he, fun v q => nomatch q⟩
    · rw [z]; exact ⟨o, ho, fun v q => by rw [hd] at q; cases q⟩
  keep := fun i h h' st k => let ⟨⟨old, he⟩, hi, hne⟩ := st; ⟨⟨old, k e (by simp) _ he⟩, hi.at fun o q => k it (by simp) o q, hne⟩
  item := by
    intro X hP hw hK hc i pins s σ H E I hf st hg
    subst hP hw hK
    obtain ⟨⟨old, he⟩, hit, hne⟩ := st
    obtain ⟨xs, x, hq, hx⟩ := hg
    obtain ⟨its, rv, p, hz⟩ := I.tuple hq
    obtain ⟨u, hu, ru⟩ := rv.get hx
    have hel : e < s.heap.objs.size := Heap.lt_size he
    have hil : it < s.heap.objs.size := by obtain ⟨_, q, _⟩ := hit; exact Heap.lt_size q
    have hlt : i < its.toArray.size := by
      rcases Nat.lt_or_ge i its.length with z | z
      · simpa using z
      · rw [List.getElem?_eq_none z] at hu; cases hu
    refine wpAny_pyNext_enum_itemD (PySem.Draws.tuple (A := X.A.in1) (I.ok.hd hc) it a hai its.toArray) he ⟨hit, p⟩ hlt hne (by simp [hne, Ne.symm hae]) fun x' h' tk hx' ho hst hT hsz hk => ?_
    obtain ⟨hit', hp'⟩ := hst
    have exu : x' = u := by
      have h1 : its.toArray[i]? = some u := by simpa using hu
      rw [h1] at hx'; cases hx'; rfl
    subst exu
    refine ⟨_, rfl, wpAny_letOwnedTupleGo_enum (s := { s with heap := h', toks := tk + 1 }) ho fun h'' he' sb => ?_⟩
    have hT2 : h''.get? s.heap.objs.size = some { cls := .type "tuple", data := .seq #[.int i tk, x'] } := (sb.2 _ (Nat.ne_of_gt hel)).trans hT
    have new : ObjOk X.prog X.w (upd H s.heap.objs.size (.tup [.int (i : Nat), x])) h'' s.heap.objs.size (.tup [.int (i : Nat), x]) :=
      ⟨by show 2 ≤ sizeLine; decide, [.int i tk, x'], .cons ⟨_, rfl⟩ (.cons ru .nil), ⟨_, hT2, rfl, _, rfl⟩⟩
    have I1 : L2.Inv X pins σ (upd H s.heap.objs.size (.tup [.int (i : Nat), x])) { s with heap := h'', toks := tk + 1 } :=
      I.turnedNew (ch := [e, it]) (fun b ob hb q => (sb.2 b (fun z => hb (by simp [z]))).trans (hk b ob (fun z => hb (by simp [z])) (fun z => hb (by simp [z])) q)) hf (Nat.le_refl _) new
    refine ⟨.ref s.heap.objs.size, _, I1, rfl, ⟨_, x, rfl, I.hok.fresh (Nat.le_refl _), rfl, fun ys hy => by rw [I.tuple_inj hy hq]; exact hx⟩, ⟨⟨x', ?_⟩, hit'.at fun o q => (sb.2 it (Ne.symm hne)).trans q, hne⟩, fun b hb => ?_⟩
    · have e1 : ((i + 1 : Nat) : Int) = (i : Int) + 1 := by omega
      rw [e1]; exact he'
    · have hb' : b < s.heap.objs.size := by
        have e' : b = e ∨ b = it := by simpa using hb
        rcases e' with z | z
        · rw [z]; exact hel
        · rw [z]; exact hil
      rw [upd_ne (Nat.ne_of_lt hb')]
      exact (hf b hb).1
  done := by
    intro X hP hw hK hc i pins s σ H E I hf st hg
    subst hP hw hK
    obtain ⟨⟨old, he⟩, hit, hne⟩ := st
    obtain ⟨xs, hq, hx⟩ := hg
    obtain ⟨its, rv, p, hz⟩ := I.tuple hq
    obtain ⟨f0, f1, f2, f3, f4, f5⟩ := hf it (by simp)
    have hl := rv.length
    have hn : i = its.toArray.size := by simp; omega
    subst hn
    exact wpAny_pyNext_enum_endD (PySem.Draws.tuple (A := X.A.in1) (I.ok.hd hc) it a hai its.toArray) he ⟨hit, p⟩ fun h' eb => ⟨rfl, I.turned (t' := s.toks) (fun b o hb q => eb b o hb q) f0 f1 f3 f4 f5⟩
  self := fun A i s Q E st h => let ⟨⟨_, he⟩, _⟩ := st; wpAny_pyIter_enum he h

def iEnumT (K : PySem.W.Frag) (ta : TA) : TI := fun σ H R => ta σ H fun vs H1 => ∃ a xs, vs = [.ref a] ∧ SqT K H1 a xs ∧ R (IteT K a) H1
theorem pi_enumT {X : Cx} {e : Expr} {ta : TA} {p pos tpos : Pos} {elts : List Expr} {kk : Nat} (hg : Gl X "enumerate") (hm : X.mg "enumerate" = none) (ha : PA X [e] ta) (hs : starEach [e] X.env = [(false, eval e X.env)]) :
    PI X (.Tuple elts kk tpos) (.Call (.Name "enumerate" p) [e] [] pos) (iEnumT X.K ta) := by
  refine ⟨fun pins s σ H R I h => ?_⟩
  refine Call_ (ld_blt I hg hm boot_enumerate (PyProof.Rows.callWith_type1 (thn (ha.run pos pins s σ H _ I h) fun us s1 ⟨vs, H1, I1, r1, q1⟩ => ?_) hs rfl))
  obtain ⟨a, xs, ex, hq, q⟩ := q1
  subst ex
  cases r1 with
  | cons r rr =>
    cases rr
    cases r
    obtain ⟨its, rv, p', hz⟩ := I1.tuple hq
    have hla : a < s1.heap.objs.size := p'.lt
    refine call_enumT (show s1.heap.IsTuple a its.toArray from p') fun h' he hit hsz hk => wpAny_pyIter_enum he ?_
    have I2 : L2.Inv X pins σ H1 { s1 with heap := h' } := I1.kept (t' := s1.toks) hk
    refine ⟨s1.heap.objs.size + 1, [s1.heap.objs.size + 1, s1.heap.objs.size], _, _, H1, rfl, I2, turn_enumT a (s1.heap.objs.size + 1) s1.heap.objs.size (Nat.ne_of_lt (Nat.lt_succ_of_lt hla)) (Nat.ne_of_lt hla), ⟨⟨.none, he⟩, hit, Nat.succ_ne_self _⟩, fun b hb => ?_, q⟩
    have e' : b = s1.heap.objs.size + 1 ∨ b = s1.heap.objs.size := by simpa using hb
    have hle : s1.heap.objs.size ≤ b := by
      rcases e' with z | z
      · rw [z]; exact Nat.le_add_right _ _
      · rw [z]; exact Nat.le_refl _
    exact I1.fpOk hle (I1.hok.fresh hle)
theorem walk_enumT {K : PySem.W.Frag} {a : Addr} {xs : List V} : Walk (IteT K a) xs.length (fun H => SqT K H a xs) (YPair (fun i => some (.int (i : Nat))) (fun i => xs[i]?)) := by
  refine ⟨fun i _ hi q => ⟨xs, xs[i], q, by simp [hi]⟩, fun _ q => ⟨xs, q, rfl⟩, fun i H v H' _ q y => ?_⟩
  obtain ⟨T, x, h1, h2, h3, h4⟩ := y
  exact ⟨T, .int (i : Nat), x, h1, h2, h3, rfl, h4 xs q⟩
theorem walk_zipT {K : PySem.W.Frag} {a b : Addr} {xs ys : List V} {n : Nat} (hn : n = min xs.length ys.length) : Walk (RZ.ItzT K a b) n (fun H => SqT K H a xs ∧ SqT K H b ys) (YPair (fun i => xs[i]?) (fun i => ys[i]?)) := by
  subst hn
  refine ⟨fun i _ hi q => ?_, fun _ q => ⟨xs, ys, q.1, q.2, by omega⟩, fun i H v H' _ q y => ?_⟩
  · have h1 : i < xs.length := by omega
    have h2 : i < ys.length := by omega
    exact ⟨xs, ys, xs[i], ys[i], q.1, q.2, by simp [h1], by simp [h2]⟩
  · obtain ⟨T, x, z, h1, h2, h3, h4, h5⟩ := y
    exact ⟨T, x, z, h1, h2, h3, h4 xs q.1, h5 ys q.2⟩
end VS
set_option Elab.async false
set_option linter.all false
set_option maxRecDepth 100000
set_option maxHeartbeats 2000000
/-! VSu: what is walked. -/
namespace VS
open PySem PySem.Spec PyProof.Rows L2
/-- J walks the items ds -/
def Src (R : Rt) (A : Av) (J : It) (ds : List D) (H0 : Hp) : Prop := ∃ Gd Y, Walk J ds.length Gd Y ∧ ∀ S H, Chg S H0 H → (∀ a, S a → A a) → Gd H ∧
  ∀ i x H' d, ds[i]? = some d → Y i H x H' → Gr H H' ∧ ∀ A', (∀ a, A' a → A a ∨ H0 a = none) → RP R H' A' d x []
section
variable {R : Rt} {A : Av} {H0 : Hp}
theorem src_list {ds : List D} {a : Addr} (r : RP R H0 A (.lst false ds) (.ref a) []) : Src R A (Itl R.K a) ds H0 := by
  unfold RP at r
  simp only [Bool.false_eq_true, if_false] at r
  obtain ⟨_, a', vs, e, hf, rr⟩ := r
  cases e
  refine ⟨_, _, by rw [← rr.length]; exact walk_list (xs := vs), fun S H c hA => ⟨(c.fzl hA (A' := A) (fun _ q => .inl q) hf).sq, fun i x H' d hd y => ?_⟩⟩
  obtain ⟨rfl, hx⟩ := y
  refine ⟨Gr.refl H', fun A' hB => ?_⟩
  obtain ⟨w, hw, rw'⟩ := rr.get0 hd
  rw [hx] at hw; cases hw
  exact rw'.chg c hA hB (by simp)
theorem src_tup {ds : List D} {a : Addr} (r : RP R H0 A (.tup ds) (.ref a) []) : Src R A (Itt R.K a) ds H0 := by
  obtain ⟨_, a', vs, e, hf, rr⟩ := r.tupD
  cases e
  refine ⟨_, _, by rw [← rr.length]; exact walk_tup (xs := vs), fun S H c hA => ⟨c.tup hf, fun i x H' d hd y => ?_⟩⟩
  obtain ⟨rfl, hx⟩ := y
  refine ⟨Gr.refl H', fun A' hB => ?_⟩
  obtain ⟨w, hw, rw'⟩ := rr.get0 hd
  rw [hx] at hw; cases hw
  exact rw'.chg c hA hB (by simp)
theorem src_rng {lo hi : Int} : Src R A (Itr lo (hi - lo).toNat) (rangeD lo hi) H0 := by
  have hl : (rangeD lo hi).length = (hi - lo).toNat := by unfold rangeD; simp
  refine ⟨_, _, by rw [hl]; exact walk_range, fun S H c hA => ⟨trivial, fun i x H' d hd y => ?_⟩⟩
  obtain ⟨rfl, rfl⟩ := y
  refine ⟨Gr.refl H', fun A' hB => ?_⟩
  unfold rangeD at hd
  rw [List.getElem?_map] at hd
  obtain ⟨k, hk, rfl⟩ := Option.map_eq_some_iff.mp hd
  have : k = i := by
    rw [List.getElem?_range] at hk
    · cases hk; rfl
    · rcases Nat.lt_or_ge i (hi - lo).toNat with z | z
      · exact z
      · rw [List.getElem?_eq_none (by simpa using z)] at hk; cases hk
  subst this
  exact RP.mkInt
theorem pair_rp {H H' : Hp} {S : Av} {d1 d2 : D} {x y v : V} {T : Addr} (c : Chg S H0 H) (hA : ∀ a, S a → A a) (hT : H T = none) (e : H' = upd H T (.tup [x, y])) (r1 : RP R H0 A d1 x []) (r2 : RP R H0 A d2 y []) : Gr H H' ∧ ∀ A', (∀ a, A' a → A a ∨ H0 a = none) → RP R H' A' (.tup [d1, d2]) (.ref T) [] := by
  subst e
  refine ⟨Gr.new hT, fun A' hB => ?_⟩
  unfold RP
  refine ⟨rfl, T, [x, y], rfl, SqT.of upd_same, ?_⟩
  have q : RPs R H A' [d1, d2] [x, y] [] := RPs.cons (o1 := []) (o2 := []) (r1.chg c hA hB (by simp)) (RPs.one (r2.chg c hA hB (by simp)))
  exact q.grow (Gr.new hT) fun _ q => .inl q
theorem zipD_len : ∀ (xs ys : List D), (zipD xs ys).length = min xs.length ys.length
  | [], ys => by unfold zipD; simp
  | x :: xs, [] => by unfold zipD; simp
  | x :: xs, y :: ys => by unfold zipD; simp [zipD_len xs ys]
theorem zipD_get : ∀ {xs ys : List D} {i : Nat} {d : D}, (zipD xs ys)[i]? = some d → ∃ a b, xs[i]? = some a ∧ ys[i]? = some b ∧ d = .tup [a, b]
  | [], ys, i, d, h => by unfold zipD at h; simp at h
  | x :: xs, [], i, d, h => by unfold zipD at h; simp at h
  | x :: xs, y :: ys, 0, d, h => by unfold zipD at h; simp at h; exact ⟨x, y, rfl, rfl, h.symm⟩
  | x :: xs, y :: ys, i + 1, d, h => by
    unfold zipD at h
    simp only [List.getElem?_cons_succ] at h
    obtain ⟨a, b, h1, h2, h3⟩ := zipD_get h
    exact ⟨a, b, by simpa using h1, by simpa using h2, h3⟩
theorem enuD_len : ∀ (xs : List D) (n : Nat), (enuD n xs).length = xs.length
  | [], _ => rfl
  | x :: xs, n => by unfold enuD; simp [enuD_len xs]
theorem enuD_get : ∀ {xs : List D} {n i : Nat} {d : D}, (enuD n xs)[i]? = some d → ∃ a, xs[i]? = some a ∧ d = .tup [.int ((n + i : Nat) : Int), a]
  | [], _, i, d, h => by unfold enuD at h; simp at h
  | x :: xs, n, 0, d, h => by unfold enuD at h; simp at h; exact ⟨x, rfl, by rw [← h]; rfl⟩
  | x :: xs, n, i + 1, d, h => by
    unfold enuD at h
    simp only [List.getElem?_cons_succ] at h
    obtain ⟨a, h1, h2⟩ := enuD_get h
    refine ⟨a, by simpa using h1, ?_⟩
    rw [h2]
    congr 3
    have : n + 1 + i = n + (i + 1) := by omega
    rw [this]
theorem src_zipL {xs ys : List D} {a b : Addr} (r1 : RP R H0 A (.lst false xs) (.ref a) []) (r2 : RP R H0 A (.lst false ys) (.ref b) []) : Src R A (Itz R.K a b) (zipD xs ys) H0 := by
  unfold RP at r1 r2
  simp only [Bool.false_eq_true, if_false] at r1 r2
  obtain ⟨_, a', vs, e, hf, rr⟩ := r1
  cases e
  obtain ⟨_, b', ws, e, hf2, rr2⟩ := r2
  cases e
  refine ⟨_, _, walk_zip (xs := vs) (ys := ws) (by rw [zipD_len, rr.length, rr2.length]), fun S H c hA => ⟨⟨(c.fzl hA (A' := A) (fun _ q => .inl q) hf).sq, (c.fzl hA (A' := A) (fun _ q => .inl q) hf2).sq⟩, fun i x H' d hd y => ?_⟩⟩
  obtain ⟨T, p, q, rfl, hT, hH, hp, hq⟩ := y
  obtain ⟨d1, d2, h1, h2, rfl⟩ := zipD_get hd
  obtain ⟨w1, hw1, k1⟩ := rr.get0 h1
  obtain ⟨w2, hw2, k2⟩ := rr2.get0 h2
  have e1 : w1 = p := Option.some.inj (hw1.symm.trans hp)
  have e2 : w2 = q := Option.some.inj (hw2.symm.trans hq)
  subst e1 e2
  exact pair_rp (v := .non) c hA hT hH k1 k2
theorem src_zipT {xs ys : List D} {a b : Addr} (r1 : RP R H0 A (.tup xs) (.ref a) []) (r2 : RP R H0 A (.tup ys) (.ref b) []) : Src R A (RZ.ItzT R.K a b) (zipD xs ys) H0 := by
  obtain ⟨_, a', vs, e, hf, rr⟩ := r1.tupD
  cases e
  obtain ⟨_, b', ws, e, hf2, rr2⟩ := r2.tupD
  cases e
  refine ⟨_, _, walk_zipT (xs := vs) (ys := ws) (by rw [zipD_len, rr.length, rr2.length]), fun S H c hA => ⟨⟨c.tup hf, c.tup hf2⟩, fun i x H' d hd y => ?_⟩⟩
  obtain ⟨T, p, q, rfl, hT, hH, hp, hq⟩ := y
  obtain ⟨d1, d2, h1, h2, rfl⟩ := zipD_get hd
  obtain ⟨w1, hw1, k1⟩ := rr.get0 h1
  obtain ⟨w2, hw2, k2⟩ := rr2.get0 h2
  have e1 : w1 = p := Option.some.inj (hw1.symm.trans hp)
  have e2 : w2 = q := Option.some.inj (hw2.symm.trans hq)
  subst e1 e2
  exact pair_rp (v := .non) c hA hT hH k1 k2
theorem src_enuL {xs : List D} {a : Addr} (r1 : RP R H0 A (.lst false xs) (.ref a) []) : Src R A (Ite R.K a) (enuD 0 xs) H0 := by
  unfold RP at r1
  simp only [Bool.false_eq_true, if_false] at r1
  obtain ⟨_, a', vs, e, hf, rr⟩ := r1
  cases e
  refine ⟨_, _, by rw [enuD_len, ← rr.length]; exact walk_enum (xs := vs), fun S H c hA => ⟨(c.fzl hA (A' := A) (fun _ q => .inl q) hf).sq, fun i x H' d hd y => ?_⟩⟩
  obtain ⟨T, p, q, rfl, hT, hH, hp, hq⟩ := y
  obtain ⟨d2, h2, rfl⟩ := enuD_get hd
  obtain ⟨w2, hw2, k2⟩ := rr.get0 h2
  have e2 : w2 = q := Option.some.inj (hw2.symm.trans hq)
  cases hp
  subst e2
  rw [Nat.zero_add]
  exact pair_rp (v := .non) c hA hT hH RP.mkInt k2
theorem src_enuT {xs : List D} {a : Addr} (r1 : RP R H0 A (.tup xs) (.ref a) []) : Src R A (IteT R.K a) (enuD 0 xs) H0 := by
  obtain ⟨_, a', vs, e, hf, rr⟩ := r1.tupD
  cases e
  refine ⟨_, _, by rw [enuD_len, ← rr.length]; exact walk_enumT (xs := vs), fun S H c hA => ⟨c.tup hf, fun i x H' d hd y => ?_⟩⟩
  obtain ⟨T, p, q, rfl, hT, hH, hp, hq⟩ := y
  obtain ⟨d2, h2, rfl⟩ := enuD_get hd
  obtain ⟨w2, hw2, k2⟩ := rr.get0 h2
  have e2 : w2 = q := Option.some.inj (hw2.symm.trans hq)
  cases hp
  subst e2
  rw [Nat.zero_add]
  exact pair_rp (v := .non) c hA hT hH RP.mkInt k2
end
section
variable {G : Wd} {W : WX} {X : Cx} {c : Ck} {tg : Expr}
theorem PIimp {it : Expr} {t t' : TI} (h : PI X tg it t) (i : ∀ σ H Q, t' σ H Q → t σ H Q) : PI X tg it t' := ⟨fun pins s σ H Q I q => h.run pins s σ H Q I (i _ _ _ q)⟩
theorem PIor {it : Expr} {t t' : TI} (h : PI X tg it t) (h' : PI X tg it t') : PI X tg it (fun σ H Q => t σ H Q ∨ t' σ H Q) := ⟨fun pins s σ H Q I q => q.elim (h.run pins s σ H Q I) (h'.run pins s σ H Q I)⟩
def rdI (G : Wd) (W : WX) (it : VS.I) : TI := fun σ H Q => ∃ env ow Rs, ES G.R H Rs env σ ow ∧ KR G.R W Rs (muI G.T it) ow H σ (evI G.T G.call it env) fun p => ∀ H' ow' J, Po G.R Rs (muI G.T it) ow H p.2 σ ow' [] H' → Src G.R (Avd ow' Rs) J p.1 H' → Q J H'
/-- a range object, walked -/
theorem pi_rngv {l : Expr} {tl : TE} (hl : PE X l tl) : PI X tg l (fun σ H R => tl σ H fun x H1 => ∃ a lo hi, x = .ref a ∧ H1 a = some (.rng lo hi) ∧ (-(2 ^ 62) ≤ lo ∧ lo < 2 ^ 62 ∧ -(2 ^ 62) ≤ hi ∧ hi < 2 ^ 62) ∧ R (Itr lo (hi - lo).toNat) H1) := by
  refine ⟨fun pins s σ H R I h => ?_⟩
  refine thn (hl.run pins s σ H _ I h) fun v s1 ⟨x, H1, I1, r1, a, lo, hi, e, hr, ⟨h1, h2, h3, h4⟩, q⟩ => ?_
  subst e
  cases r1
  obtain ⟨t, u, v, ho⟩ := (show ObjOk X.prog X.w H1 s1.heap a (.rng lo hi) from I1.hok a _ hr)
  refine wpAny_pyIter_range (a := lo) (b := hi) (c := 1) (t := t) (u := u) (v := v) ho (small_one h1 h2 h3 h4) ?_
  refine ⟨s1.heap.objs.size, [s1.heap.objs.size], _, _, H1, rfl, I1.kept (t' := s1.toks) fun b o e => Heap.get?_push_of_some _ e, turn_range _ lo (hi - lo).toNat, ?_, fun b hb => ?_, q⟩
  · have e1 : lo + ((0 : Nat) : Int) * 1 = lo := by simp
    have e2 : (((hi - lo).toNat : Nat) : Int) - ((0 : Nat) : Int) = Builtin.Range.rangeSize lo hi 1 := by rw [rangeSize_one]; split <;> omega
    show IsRangeIter _ _ (lo + ((0 : Nat) : Int) * 1) ((((hi - lo).toNat : Nat) : Int) - ((0 : Nat) : Int)) 1
    rw [e1, e2]
    exact Heap.get?_push_size _ rfl
  · have e : b = s1.heap.objs.size := by simpa using hb
    subst e
    exact I1.fpOk (Nat.le_refl _) (I1.hok.fresh (Nat.le_refl _))

/-- a list's value, given up -/
theorem RP.fzL {R : Rt} {H : Hp} {A A' : Av} {o : Bool} {xs : List D} {v : V} {os : List Addr} (r : RP R H A (.lst o xs) v os) (hB : ∀ a, A' a → A a ∨ H a = none) (h : ∀ a ∈ os, ¬ A' a) : ∃ a, v = .ref a ∧ RP R H A' (.lst false (D.fzs xs)) (.ref a) [] := by
  have q := r.freeze hB h
  obtain ⟨a, _, _, e, _⟩ := r.lstD
  subst e
  exact ⟨a, rfl, q⟩
/-- a value that is walked -/
theorem pi_val {e : Expr} {a : E} (g : Good c G W X) (h : SE G W X e a) : PI X tg e (rdI G W (.val a)) := by
  refine PIimp (PIor (pi_list h.pe) (PIor (pi_tup h.pe) (pi_rngv h.pe))) fun σ H Q ⟨env, ow, Rs, es, k⟩ => ?_
  have hm : muI G.T (.val a) = muE G.T a := by rw [muI]
  rw [evI, hm] at k
  cases hr : evX G.T G.call false a env with
  | no => rw [hr] at k; exact False.elim k
  | ex c xs e =>
    rw [hr] at k
    exact .inl ⟨env, ow, Rs, es, by rw [hr]; exact k⟩
  | ok p =>
    rw [hr] at k
    obtain ⟨d, e⟩ := p
    have k : KR G.R W Rs (muE G.T a) ow H σ (match d with
      | .lst _ xs => .ok (D.fzs xs, e)
      | .tup xs => .ok (xs, e)
      | .rng lo hi => if smallI lo && smallI hi then .ok (rangeD lo hi, e) else .no
      | _ => .no) _ := k
    cases d with
    | lst o xs =>
      refine .inl ⟨env, ow, Rs, es, ?_⟩
      rw [hr]
      intro v H' ow' os po r
      obtain ⟨ad, rfl, q⟩ := r.fzL (A' := Avd ow' Rs) (fun a q => .inl (q.elim .inl fun q => .inr (.inl q))) (po.apart es)
      obtain ⟨_, vs, _, e1, hs, _⟩ := r.lstD
      cases e1
      refine ⟨ad, rfl, ⟨vs, g.K ▸ hs⟩, k H' ow' _ po.nil ?_⟩
      rw [g.K]
      exact src_list q
    | tup xs =>
      refine .inr (.inl ⟨env, ow, Rs, es, ?_⟩)
      rw [hr]
      intro v H' ow' os po r
      obtain ⟨z, ad, vs, rfl, hs, _⟩ := r.tupD
      subst z
      refine ⟨ad, rfl, ⟨vs, g.K ▸ hs⟩, k H' ow' _ po ?_⟩
      rw [g.K]
      exact src_tup (r.avoid fun a q => .inl (AvdTm.mpr q))
    | rng lo hi =>
      have k : KR G.R W Rs (muE G.T a) ow H σ (if smallI lo && smallI hi then .ok (rangeD lo hi, e) else .no) _ := k
      split at k
      · rename_i hb
        simp only [Bool.and_eq_true] at hb
        have h1 := smallI_le hb.1
        have h2 := smallI_le hb.2
        refine .inr (.inr ⟨env, ow, Rs, es, ?_⟩)
        rw [hr]
        intro v H' ow' os po r
        unfold RP at r
        obtain ⟨z, ad, rfl, hs⟩ := r
        subst z
        exact ⟨ad, lo, hi, rfl, hs, ⟨h1.1, h1.2, h2.1, h2.2⟩, k H' ow' _ po src_rng⟩
      · exact False.elim k
    | _ => exact False.elim k
theorem pi_rng {x : Str} {es : List Expr} {as : Es} {p pos : Pos} (g : Good c G W X) (hx : x = ("range" : Str)) (hb : c.blt x = true) (r : SEs G W X es as) (hl : es.length = 1 ∨ es.length = 2) : PI X tg (.Call (.Name x p) es [] pos) (rdI G W (.rng as)) := by
  subst hx
  obtain ⟨h1, h2, h3, h4⟩ := blt_ok g hb
  have hm : muI G.T (.rng as) = muEs G.T as := by rw [muI]
  have key : ∀ {σ H Q}, rdI G W (.rng as) σ H Q → rdEs G W as σ H fun vs H1 => (∃ j : Int, vs = [.int j] ∧ -(2 ^ 62) ≤ j ∧ j < 2 ^ 62 ∧ Q (Itr 0 j.toNat) H1) ∨ (∃ i j : Int, vs = [.int i, .int j] ∧ (-(2 ^ 62) ≤ i ∧ i < 2 ^ 62 ∧ -(2 ^ 62) ≤ j ∧ j < 2 ^ 62) ∧ Q (Itr i (j - i).toNat) H1) := fun {σ H Q} ⟨env, ow, Rs, es, k⟩ => by
    rw [evI, hm] at k
    refine ⟨env, ow, Rs, es, k.bind.imp fun p _ kp vs H1 ow1 os1 po r1 => ?_⟩
    split at kp
    · rename_i b hd
      rw [hd] at r1
      split at kp
      · rename_i hs
        unfold RPs at r1
        obtain ⟨v, vs', o1, o2, rfl, _, k1, k2⟩ := r1
        unfold RPs at k2
        obtain ⟨rfl, _⟩ := k2
        have hb := smallI_le hs
        refine .inl ⟨b, by rw [k1.int], hb.1, hb.2, ?_⟩
        have q := kp H1 ow1 _ po.nil (src_rng (lo := 0) (hi := b))
        rw [Int.sub_zero] at q
        exact q
      · exact kp.elim
    · rename_i a b hd
      rw [hd] at r1
      split at kp
      · rename_i hs
        simp only [Bool.and_eq_true] at hs
        unfold RPs at r1
        obtain ⟨v, vs', o1, o2, rfl, _, k1, k2⟩ := r1
        unfold RPs at k2
        obtain ⟨w, ws', o3, o4, rfl, _, k3, k4⟩ := k2
        unfold RPs at k4
        obtain ⟨rfl, _⟩ := k4
        have ha := smallI_le hs.1
        have hb := smallI_le hs.2
        exact .inr ⟨a, b, by rw [k1.int, k3.int], ⟨ha.1, ha.2, hb.1, hb.2⟩, kp H1 ow1 _ po.nil src_rng⟩
      · exact kp.elim
    · exact kp.elim
  have mono : ∀ {σ H} {Q Q' : List V → Hp → Prop}, (∀ vs H1, Q vs H1 → Q' vs H1) → rdEs G W as σ H Q → rdEs G W as σ H Q' := fun {σ H Q Q'} i ⟨env, ow, Rs, es, k⟩ => ⟨env, ow, Rs, es, k.imp fun p _ kp vs H1 ow1 os1 po r1 => i _ _ (kp vs H1 ow1 os1 po r1)⟩
  have lenK : ∀ {σ H} {Q : List V → Hp → Prop} , rdEs G W as σ H Q → rdEs G W as σ H fun vs H1 => vs.length = lenEs as ∧ Q vs H1 := fun {σ H Q} ⟨env, ow, Rs, es, k⟩ => ⟨env, ow, Rs, es, k.imp fun p hp kp vs H1 ow1 os1 po r1 => ⟨by rw [r1.length, evEs_len hp], kp vs H1 ow1 os1 po r1⟩⟩
  have ln := r.len
  cases r with
  | nil => simp at hl
  | cons st h r =>
    cases r with
    | nil =>
      refine PIimp (pi_range1 h1 h4 (pa_es (.cons st h .nil)) (star_cons st)) fun σ H Q q => mono (fun vs H1 ⟨e, z⟩ => ?_) (lenK (key q))
      rcases z with z | ⟨i, j, e2, _⟩
      · exact z
      · rw [e2, ln] at e; simp at e
    | cons st2 h2' r =>
      cases r with
      | nil =>
        refine PIimp (pi_range2 h1 h4 (pa_es (.cons st h (.cons st2 h2' .nil))) (by rw [star_cons st, star_cons st2]; rfl) (star_cons st2)) fun σ H Q q => mono (fun vs H1 ⟨e, z⟩ => ?_) (lenK (key q))
        rcases z with ⟨j, e2, _⟩ | z
        · rw [e2, ln] at e; simp at e
        · exact z
      | cons _ _ _ => simp at hl
/-- two values, then what is done -/
theorem pi_zip {x : Str} {y z : Expr} {a b : E} {p pos tpos : Pos} {elts : List Expr} {kk : Nat} (g : Good c G W X) (hx : x = ("zip" : Str)) (hb : c.blt x = true) (st1 : isStar y = false) (st2 : isStar z = false) (h1 : SE G W X y a) (h2 : SE G W X z b) :
    PI X (.Tuple elts kk tpos) (.Call (.Name x p) [y, z] [] pos) (rdI G W (.zip a b)) := by
  subst hx
  obtain ⟨b1, b2, b3, b4⟩ := blt_ok g hb
  refine PIimp (RZ.pi_zipA b1 b4 (pa_cons h1.pe (pa_cons h2.pe pa_nil (star_cons st2)) (star_cons st1)) (star_cons st1) (by rw [star_cons st2]; rfl)) fun σ H Q ⟨env, ow, Rs, es, k⟩ => ?_
  have hm : muI G.T (.zip a b) = (muE G.T a || muE G.T b) := by rw [muI]
  rw [evI, hm] at k
  refine ⟨env, ow, Rs, es, (k.bind.le ma).imp fun p _ kp v H1 ow1 os1 po1 r1 => ⟨p.2, ow1, Tm Rs os1, po1.es, (kp.bind.shift po1 ma mb).imp fun q _ kq w H2 ow2 os2 po2 r2 => ?_⟩⟩
  have r1' := po2.keep po1.es r1 fun a ha => .inr ha
  have po := Po.seq (os := []) po1 po2 (by simp) (by simp)
  have ap1 : ∀ a ∈ os1, ¬ Avd ow2 Rs a := fun a ha z => by
    rcases z with z | z
    · exact po2.es.rs a (.inl (.inr ha)) z
    · exact po1.apart es a ha (.inr z)
  have ap2 : ∀ a ∈ os2, ¬ Avd ow2 Rs a := fun a ha z => by
    rcases z with z | z
    · exact po2.es.rs a (.inr ha) z
    · exact po2.apart po1.es a ha (.inr (.inl z))
  have lo : ∀ a, Avd ow2 Rs a → Avd ow2 (Tm (Tm Rs os1) os2) a := fun a q => by
    rcases q with q | q
    · exact .inl q
    · exact .inr (.inl (.inl q))
  split at kq
  · rename_i o1 xs o2 ys hd1 hd2
    rw [hd1] at r1'
    rw [hd2] at r2
    obtain ⟨ad, rfl, q1⟩ := r1'.fzL (A' := Avd ow2 Rs) (fun a q => .inl (lo a q)) ap1
    obtain ⟨bd, rfl, q2⟩ := r2.fzL (A' := Avd ow2 Rs) (fun a q => .inl (lo a q)) ap2
    obtain ⟨_, vs, _, e1, hs, _⟩ := r1'.lstD
    cases e1
    obtain ⟨_, ws, _, e2, hs2, _⟩ := r2.lstD
    cases e2
    refine ⟨ad, bd, vs, ws, rfl, .inl ⟨g.K ▸ hs, g.K ▸ hs2, kq H2 ow2 _ po ?_⟩⟩
    rw [g.K]
    exact src_zipL q1 q2
  · rename_i xs ys hd1 hd2
    rw [hd1] at r1'
    rw [hd2] at r2
    obtain ⟨z1, ad, vs, rfl, hs, _⟩ := r1'.tupD
    obtain ⟨z2, bd, ws, rfl, hs2, _⟩ := r2.tupD
    subst z1 z2
    refine ⟨ad, bd, vs, ws, rfl, .inr ⟨g.K ▸ hs, g.K ▸ hs2, kq H2 ow2 _ po ?_⟩⟩
    rw [g.K]
    exact src_zipT (r1'.avoid fun a q => .inl (lo a q)) (r2.avoid fun a q => .inl (lo a q))
  · exact kq.elim
theorem pi_enu {x : Str} {y : Expr} {a : E} {p pos tpos : Pos} {elts : List Expr} {kk : Nat} (g : Good c G W X) (hx : x = ("enumerate" : Str)) (hb : c.blt x = true) (st1 : isStar y = false) (h1 : SE G W X y a) :
    PI X (.Tuple elts kk tpos) (.Call (.Name x p) [y] [] pos) (rdI G W (.enu a)) := by
  subst hx
  obtain ⟨b1, b2, b3, b4⟩ := blt_ok g hb
  have pa := pa_cons h1.pe pa_nil (star_cons (X := X) (es := []) st1)
  refine PIimp (PIor (pi_enum b1 b4 pa (star_cons st1)) (pi_enumT b1 b4 pa (star_cons st1))) fun σ H Q ⟨env, ow, Rs, es, k⟩ => ?_
  have hm : muI G.T (.enu a) = muE G.T a := by rw [muI]
  rw [evI, hm] at k
  cases hr : evX G.T G.call false a env with
  | no => rw [hr] at k; exact False.elim k
  | ex c xs e =>
    rw [hr] at k
    exact .inl ⟨env, ow, Rs, es, by rw [hr]; exact k⟩
  | ok p =>
    rw [hr] at k
    obtain ⟨d, e⟩ := p
    have k : KR G.R W Rs (muE G.T a) ow H σ (match d with
      | .lst _ xs => .ok (enuD 0 (D.fzs xs), e)
      | .tup xs => .ok (enuD 0 xs, e)
      | _ => .no) _ := k
    cases d with
    | lst o xs =>
      refine .inl ⟨env, ow, Rs, es, ?_⟩
      rw [hr]
      intro v H' ow' os po r
      obtain ⟨ad, rfl, q⟩ := r.fzL (A' := Avd ow' Rs) (fun a q => .inl (q.elim .inl fun q => .inr (.inl q))) (po.apart es)
      obtain ⟨_, vs, _, e1, hs, _⟩ := r.lstD
      cases e1
      refine ⟨ad, vs, rfl, g.K ▸ hs, k H' ow' _ po.nil ?_⟩
      rw [g.K]
      exact src_enuL q
    | tup xs =>
      refine .inr ⟨env, ow, Rs, es, ?_⟩
      rw [hr]
      intro v H' ow' os po r
      obtain ⟨z, ad, vs, rfl, hs, _⟩ := r.tupD
      subst z
      refine ⟨ad, vs, rfl, g.K ▸ hs, k H' ow' _ po ?_⟩
      rw [g.K]
      exact src_enuT (r.avoid fun a q => .inl (AvdTm.mpr q))
    | _ => exact False.elim k
end
end VS
set_option Elab.async false
set_option linter.all false
set_option maxRecDepth 100000
set_option maxHeartbeats 2000000
/-! VSv: targets; slots wiped. -/
namespace VS
open PySem PySem.Spec PyProof.Rows L2
section
variable {R : Rt} {H H' : Hp} {Rs Rs' : Av} {env : VE} {σ : L2.St} {ow : Own}
/-- a frozen value stored -/
theorem ES.set0 (s : ES R H Rs env σ ow) {i : Nat} {d : D} {v : V} (r : RP R H (Avd ow Rs) d v []) : ∃ ow', ES R H Rs (setV env i d) (σ.set i (some v)) ow' ∧ (∀ a, Ow ow' a → Ow ow a) := by
  by_cases hi : i < env.length
  · refine ⟨setO ow i [], ES.put (S := fun _ => False) (os := []) s hi ⟨fun _ _ h _ => h, fun _ _ h => h.elim⟩ (fun _ z => z.elim) (fun _ z => z) (fun a z => ⟨z, by simp⟩) (by simp) (by simp) (r.avoid fun a q => .inl ?_), fun a q => ?_⟩
    · rcases q with q | q
      · rcases Ow_setO.mp q with z | ⟨j, _, z⟩
        · cases z
        · exact .inl ⟨j, z⟩
      · exact .inr q
    · rcases Ow_setO.mp q with z | ⟨j, _, z⟩
      · cases z
      · exact ⟨j, z⟩
  · have h1 : setV env i d = env := by unfold setV; exact List.set_eq_of_length_le (by omega)
    have h2 : σ.set i (some v) = σ := List.set_eq_of_length_le (by rw [← s.len]; omega)
    rw [h1, h2]
    exact ⟨ow, s, fun _ q => q⟩
def gNames : List Nat → TGs
  | [] => gNil
  | i :: is => gCons (gName i) (gNames is)
theorem setTs_ok {Q : L2.St → Hp → Prop} : ∀ {ts : List Nat} {xs : List D} {vs : List V} {env env' : VE} {σ : L2.St} {ow : Own}, ES R H Rs env σ ow → RPs R H (Avd ow Rs) xs vs [] → setTs env ts xs = some env' →
    (∀ σ' ow', ES R H Rs env' σ' ow' → (∀ a, Ow ow' a → Ow ow a) → (∀ j, j ∉ ts → σ'[j]? = σ[j]?) → σ'.length = σ.length → Q σ' H) → gNames ts vs σ H Q
  | [], [], vs, env, env', σ, ow, s, r, h, q => by
    unfold setTs at h; cases h
    unfold RPs at r
    exact ⟨r.1, q σ ow s (fun _ z => z) (fun _ _ => rfl) rfl⟩
  | i :: is, d :: ds, vs, env, env', σ, ow, s, r, h, q => by
    unfold setTs at h
    unfold RPs at r
    obtain ⟨v, vs', o1, o2, rfl, e, r1, r2⟩ := r
    obtain ⟨e1, e2⟩ := List.append_eq_nil_iff.mp e.symm
    subst e1 e2
    obtain ⟨ow1, s1, hs⟩ := s.set0 (i := i) r1
    refine ⟨v, vs', rfl, setTs_ok s1 (r2.avoid fun a z => .inl (z.imp (hs a) id)) h fun σ' ow' s' h1 h2 h3 => q σ' ow' s' (fun a z => hs a (h1 a z)) (fun j hj => ?_) (by rw [h3, List.length_set])⟩
    rw [h2 j (fun z => hj (List.mem_cons_of_mem _ z)), List.getElem?_set_ne (fun z => hj (by rw [z]; exact List.mem_cons_self))]
  | [], d :: ds, vs, env, env', σ, ow, s, r, h, q => by unfold setTs at h; cases h
  | i :: is, [], vs, env, env', σ, ow, s, r, h, q => by unfold setTs at h; cases h
end
section
variable {G : Wd} {W : WX} {X : Cx} {c : Ck}
/-- a frozen value given to a target -/
def gT (G : Wd) (ts : List Nat) (tu : Bool) : TG := fun v σ H Q => ∃ env ow Rs d env', ES G.R H Rs env σ ow ∧ RP G.R H (Avd ow Rs) d v [] ∧ setT env ts tu d = some env' ∧
  ∀ σ' ow', ES G.R H Rs env' σ' ow' → (∀ a, Ow ow' a → Ow ow a) → (∀ j, j ∉ ts → σ'[j]? = σ[j]?) → σ'.length = σ.length → Q σ' H
theorem PGimp {e : Expr} {t t' : TG} (h : PG X e t) (i : ∀ v σ H Q, t' v σ H Q → t v σ H Q) : PG X e t' := ⟨fun pins s σ H v u Q I r q => h.run pins s σ H v u Q I r (i _ _ _ _ q)⟩
theorem tgt_ok (g : Good c G W X) {x : Str} {i : Nat} (h : c.tgt x i = true) : X.N[i]? = some x ∧ Loc X.env.scope x ∧ (X.fn x = true ∨ X.env.scope.names.lookup x = some .local) := by
  unfold Ck.tgt isLoc isLocal at h
  simp only [Bool.and_eq_true, decide_eq_true_eq, Bool.or_eq_true] at h
  obtain ⟨h1, h2, h3⟩ := h
  refine ⟨by rw [g.N]; exact h1, ?_, ?_⟩
  · rw [g.sc]
    unfold L2.Loc
    split at h2
    · rename_i q; exact .inl q
    · rename_i q; exact .inr q
    · cases h2
  · rw [g.sc, g.fn]
    rcases h3 with h3 | h3
    · exact .inl h3
    · right
      split at h3
      · assumption
      · cases h3
theorem pg_nm (g : Good c G W X) {e : Expr} {x : Str} {i : Nat} (hv : vName e = some x) (h : c.tgt x i = true) : PG X e (gName i) := by
  obtain ⟨p, rfl⟩ := vName_eq hv
  obtain ⟨h1, h2, h3⟩ := tgt_ok g h
  exact pg_name g.nd h1 h2 h3
theorem assign_each {e : Expr} {es : List Expr} {x : Str} (hv : vName e = some x) : assignEach (e :: es) X.env = (false, assign e X.env) :: assignEach es X.env := by
  obtain ⟨p, rfl⟩ := vName_eq hv
  rfl
theorem pgs_ts (g : Good c G W X) : ∀ {es : List Expr} {ts : List Nat}, okTs c es ts = true → PGs X es (gNames ts) ∧ (assignEach es X.env).length = ts.length ∧ (assignEach es X.env).findIdx? (·.1) = none
  | [], [], _ => ⟨pgs_nil, rfl, rfl⟩
  | e :: es, i :: is, h => by
    unfold okTs at h
    simp only [Bool.and_eq_true] at h
    obtain ⟨h1, h2⟩ := h
    split at h1
    · rename_i x hx
      obtain ⟨p1, p2, p3⟩ := pgs_ts g h2
      have ha := assign_each (X := X) (es := es) hx
      refine ⟨pgs_cons (pg_nm g hx h1) p1 (by rw [ha]; rfl), by rw [ha]; simp [p2], ?_⟩
      rw [ha, List.findIdx?_cons]
      simp [p3]
    · cases h1
  | [], _ :: _, h => by unfold okTs at h; cases h
  | _ :: _, [], h => by unfold okTs at h; cases h
theorem pg_T (g : Good c G W X) (hc : X.calm = true) {e : Expr} {ts : List Nat} {tu : Bool} (h : okT c e ts tu = true) : PG X e (gT G ts tu) := by
  unfold okT at h
  split at h
  · split at h
    · rename_i es hes
      obtain ⟨k, p, rfl⟩ := vTup_eq hes
      obtain ⟨p1, p2, p3⟩ := pgs_ts g h
      refine PGimp (pg_tup hc p1 p2 p3) fun v σ H Q ⟨env, ow, Rs, d, env', s, r, hs, q⟩ => ?_
      obtain ⟨xs, rfl, hs⟩ : ∃ xs, d = .tup xs ∧ setTs env ts xs = some env' := by
        cases d with
        | tup xs => exact ⟨xs, rfl, hs⟩
        | _ => cases hs
      obtain ⟨_, a, vs, rfl, ht, rr⟩ := r.tupD
      refine ⟨a, vs, rfl, g.K ▸ ht, ?_, setTs_ok s rr hs q⟩
      rw [rr.length]
      exact (setTs_len hs).symm
    · cases h
  · split at h
    · rename_i x i hx
      refine PGimp (pg_nm g hx h) fun v σ H Q ⟨env, ow, Rs, d, env', s, r, hs, q⟩ => ?_
      have hs : some (setV env i d) = some env' := hs
      cases hs
      obtain ⟨ow', s', hsub⟩ := s.set0 (i := i) r
      exact q _ ow' s' hsub (fun j hj => List.getElem?_set_ne (fun z => hj (by rw [z]; exact List.mem_singleton.mpr rfl))) (List.length_set ..)
    · cases h
where
  setTs_len : ∀ {ts : List Nat} {env env' : VE} {xs : List D}, setTs env ts xs = some env' → ts.length = xs.length
  | [], _, _, [], _ => rfl
  | i :: is, _, _, d :: ds, h => by unfold setTs at h; simp [setTs_len h]
  | [], _, _, d :: ds, h => by unfold setTs at h; cases h
  | i :: is, _, _, [], h => by unfold setTs at h; cases h
end
/-! ### slots wiped -/
section
variable {R : Rt} {H H' : Hp} {Rs Rs' : Av} {env : VE} {σ : L2.St} {ow : Own}
theorem wipe_len {α : Type} : ∀ (ts : List Nat) (l : List (Option α)), (ts.foldr (fun i l => l.set i none) l).length = l.length
  | [], l => rfl
  | i :: is, l => by simp [wipe_len is l]
theorem wipe_get {α : Type} : ∀ (ts : List Nat) (l : List (Option α)) (j : Nat), (ts.foldr (fun i l => l.set i none) l)[j]? = if j ∈ ts then (if j < l.length then some none else none) else l[j]?
  | [], l, j => by simp
  | i :: is, l, j => by
    rw [List.foldr_cons]
    by_cases e : i = j
    · subst e
      rw [if_pos List.mem_cons_self]
      by_cases hl : i < l.length
      · rw [if_pos hl, List.getElem?_set_self (by rw [wipe_len]; exact hl)]
      · rw [if_neg hl, List.getElem?_eq_none (by rw [List.length_set, wipe_len]; omega)]
    · rw [List.getElem?_set_ne e, wipe_get is l j]
      by_cases h : j ∈ is
      · rw [if_pos h, if_pos (List.mem_cons_of_mem _ h)]
      · rw [if_neg h, if_neg (by simp [Ne.symm e, h])]
theorem wipe_fold : ∀ (ts : List Nat) (σ : L2.St), wipe σ ts = ts.foldr (fun i l => l.set i none) σ
  | [], σ => rfl
  | i :: is, σ => by unfold wipe; rw [wipe_fold is σ]; rfl
theorem wipeV_fold : ∀ (ts : List Nat) (env : VE), wipeV env ts = ts.foldr (fun i l => l.set i none) env
  | [], σ => rfl
  | i :: is, σ => by unfold wipeV delV; rw [wipeV_fold is σ]; rfl
theorem wipe_eq {σ σ' : L2.St} {ts : List Nat} (h : ∀ j, j ∉ ts → σ'[j]? = σ[j]?) (hl : σ'.length = σ.length) : wipe σ' ts = wipe σ ts := by
  apply List.ext_getElem?
  intro j
  rw [wipe_fold, wipe_fold, wipe_get, wipe_get, hl]
  by_cases hj : j ∈ ts
  · rw [if_pos hj, if_pos hj]
  · rw [if_neg hj, if_neg hj, h j hj]
theorem wipe_wipe (σ : L2.St) (ts : List Nat) : wipe (wipe σ ts) ts = wipe σ ts := by
  refine wipe_eq (fun j hj => ?_) ?_
  · rw [wipe_fold, wipe_get, if_neg hj]
  · rw [wipe_fold, wipe_len]
def ow0 (ow : Own) (ts : List Nat) : Own := fun j => if j ∈ ts then [] else ow j
theorem ow0_sub {ts : List Nat} {a : Addr} (h : Ow (ow0 ow ts) a) : Ow ow a := by
  obtain ⟨j, h⟩ := h
  unfold ow0 at h
  split at h
  · cases h
  · exact ⟨j, h⟩
theorem ES.wipe (s : ES R H Rs env σ ow) (ts : List Nat) : ES R H Rs (wipeV env ts) (L2.wipe σ ts) (ow0 ow ts) := by
  have sub : ∀ a, Avd (ow0 ow ts) Rs a → Avd ow Rs a := fun a q => q.imp ow0_sub id
  refine ⟨by rw [wipeV_fold, wipe_fold, wipe_len, wipe_len, s.len], fun j d e => ?_, fun j h => ?_, fun j => ?_, fun i j a h1 h2 => ?_, fun a q w => s.rs a q (ow0_sub w), s.rt⟩
  · rw [wipeV_fold, wipe_get] at e
    by_cases hj : j ∈ ts
    · rw [if_pos hj] at e
      split at e <;> cases e
    · rw [if_neg hj] at e
      obtain ⟨v, hv, r⟩ := s.rep j d e
      refine ⟨v, by rw [wipe_fold, wipe_get, if_neg hj]; exact hv, ?_⟩
      unfold ow0
      rw [if_neg hj]
      exact r.avoid fun a q => .inl (sub a q)
  · unfold ow0
    split
    · rfl
    · rename_i hj
      refine s.nil j fun d e => h d ?_
      rw [wipeV_fold, wipe_get, if_neg hj]
      exact e
  · unfold ow0
    split
    · exact List.nodup_nil
    · exact s.nd j
  · unfold ow0 at h1 h2
    split at h1
    · cases h1
    · split at h2
      · cases h2
      · exact s.dj i j a h1 h2
theorem back_get (env0 : VE) : ∀ (ts : List Nat) (env : VE) (j : Nat), (backV env0 env ts)[j]? = if j ∈ ts then (if j < env.length then some ((env0[j]?).getD none) else none) else env[j]?
  | [], env, j => by unfold backV; simp
  | i :: is, env, j => by
    have hl : ∀ ts : List Nat, (backV env0 env ts).length = env.length := fun ts => by
      induction ts with
      | nil => rfl
      | cons a b ih => unfold backV; rw [List.length_set, ih]
    unfold backV
    by_cases e : i = j
    · subst e
      rw [if_pos List.mem_cons_self]
      by_cases hh : i < env.length
      · rw [if_pos hh, List.getElem?_set_self (by rw [hl]; exact hh)]
      · rw [if_neg hh, List.getElem?_eq_none (by rw [List.length_set, hl]; omega)]
    · rw [List.getElem?_set_ne e, back_get env0 is env j]
      by_cases h : j ∈ is
      · rw [if_pos h, if_pos (List.mem_cons_of_mem _ h)]
      · rw [if_neg h, if_neg (by simp [Ne.symm e, h])]
/-- the outer values back in the wiped slots -/
theorem ES.back {env0 : VE} {ts : List Nat} (s : ES R H Rs env (L2.wipe σ ts) ow) (h0 : ∀ j ∈ ts, ∀ d, env0[j]? = some (some d) → ∃ v, σ[j]? = some (some v) ∧ RP R H (Avd ow Rs) d v []) : ES R H Rs (backV env0 env ts) σ (ow0 ow ts) := by
  have sub : ∀ a, Avd (ow0 ow ts) Rs a → Avd ow Rs a := fun a q => q.imp ow0_sub id
  have hl : ∀ ts : List Nat, (backV env0 env ts).length = env.length := fun ts => by
    induction ts with
    | nil => rfl
    | cons a b ih => unfold backV; rw [List.length_set, ih]
  refine ⟨by rw [hl, s.len, wipe_fold, wipe_len], fun j d e => ?_, fun j h => ?_, fun j => ?_, fun i j a h1 h2 => ?_, fun a q w => s.rs a q (ow0_sub w), s.rt⟩
  · rw [back_get] at e
    by_cases hj : j ∈ ts
    · rw [if_pos hj] at e
      split at e
      · have e' : env0[j]? = some (some d) := by
          cases q : env0[j]? with
          | none => rw [q] at e; cases e
          | some o => rw [q] at e; simpa using e
        obtain ⟨v, hv, r⟩ := h0 j hj d e'
        refine ⟨v, hv, ?_⟩
        unfold ow0
        rw [if_pos hj]
        exact r.avoid fun a q => .inl (sub a q)
      · cases e
    · rw [if_neg hj] at e
      obtain ⟨v, hv, r⟩ := s.rep j d e
      refine ⟨v, ?_, ?_⟩
      · rw [wipe_fold, wipe_get, if_neg hj] at hv
        exact hv
      · unfold ow0
        rw [if_neg hj]
        exact r.avoid fun a q => .inl (sub a q)
  · unfold ow0
    split
    · rfl
    · rename_i hj
      refine s.nil j fun d e => h d ?_
      rw [back_get, if_neg hj]
      exact e
  · unfold ow0
    split
    · exact List.nodup_nil
    · exact s.nd j
  · unfold ow0 at h1 h2
    split at h1
    · cases h1
    · split at h2
      · cases h2
      · exact s.dj i j a h1 h2
/-- one evaluation behind another, the slots changed between -/
theorem Po.seqS {m1 m2 : Bool} {H1 H2 : Hp} {env1 env2 : VE} {σ1 σ2 : L2.St} {ow1 ow2 : Own} {os1 os2 os : List Addr} (p : Po R Rs m1 ow H env1 σ1 ow1 os1 H1) (q : Po R (Tm Rs os1) m2 ow1 H1 env2 σ2 ow2 os2 H2) (h : ∀ a ∈ os, a ∈ os1 ∨ a ∈ os2) (hn : os.Nodup) : Po R Rs (m1 || m2) ow H env2 σ2 ow2 os H2 where
  es := q.es.less fun a z => by
    rcases z with z | z
    · exact .inl (.inl z)
    · rcases h a z with y | y
      · exact .inl (.inr y)
      · exact .inr y
  new := fun a z => by
    have key : Ow ow1 a ∨ H1 a = none → Ow ow a ∨ H a = none := fun y => by
      rcases y with y | y
      · exact p.new a (.inl y)
      · right
        cases e : H a with
        | none => rfl
        | some o => exact absurd y (p.trk a (by rw [e]; simp))
    rcases z with z | z
    · exact key (q.new a (.inl z))
    · rcases h a z with y | y
      · exact p.new a (.inr y)
      · exact key (q.new a (.inr y))
  fr := fun a o e z => by
    refine q.fr a o (p.fr a o e fun y => z (by simp [y])) fun y w => ?_
    rcases p.new a (.inl w) with k | k
    · exact z (by simp [y]) k
    · rw [e] at k; cases k
  trk := fun a z => q.trk a (p.trk a z)
  nd := hn
/-- what a frame has changed -/
theorem Po.chg {mu : Bool} {H1 : Hp} {env1 : VE} {σ0 σ1 : L2.St} {ow1 : Own} {os1 : List Addr} (p : Po R Rs mu ow H env1 σ1 ow1 os1 H1) (s : ES R H Rs env σ0 ow) : Chg (fun a => mu = true ∧ Ow ow a) H H1 :=
  ⟨fun a o e z => p.fr a o e fun y w => z ⟨y, w⟩, fun a o z e => by
    obtain ⟨o', e', m⟩ := s.ow_some z.2
    rw [e] at e'; cases e'; exact m⟩
theorem Po.keepS {mu : Bool} {H1 : Hp} {env1 : VE} {σ0 σ1 : L2.St} {ow1 : Own} {os os1 : List Addr} (q : Po R Rs mu ow H env1 σ1 ow1 os1 H1) (s : ES R H Rs env σ0 ow) {d : D} {v : V} (r : RP R H (Avd ow Rs) d v os) (ho : ∀ a ∈ os, Rs a) : RP R H1 (Avd ow1 (Tm Rs os1)) d v os := by
  refine r.chg (q.chg s) (fun a z => .inl z.2) (fun a z => ?_) fun a ha z => s.rs a (ho a ha) z.2
  rcases z with z | z | z
  · rcases q.new a (.inl z) with y | y
    · exact .inl (.inl y)
    · exact .inr y
  · exact .inl (.inr z)
  · rcases q.new a (.inr z) with y | y
    · exact .inl (.inl y)
    · exact .inr y
theorem Po.keepsS {mu : Bool} {H1 : Hp} {env1 : VE} {σ0 σ1 : L2.St} {ow1 : Own} {os os1 : List Addr} (q : Po R Rs mu ow H env1 σ1 ow1 os1 H1) (s : ES R H Rs env σ0 ow) {d : List D} {v : List V} (r : RPs R H (Avd ow Rs) d v os) (ho : ∀ a ∈ os, Rs a) : RPs R H1 (Avd ow1 (Tm Rs os1)) d v os := by
  refine r.chg (q.chg s) (fun a z => .inl z.2) (fun a z => ?_) fun a ha z => s.rs a (ho a ha) z.2
  rcases z with z | z | z
  · rcases q.new a (.inl z) with y | y
    · exact .inl (.inl y)
    · exact .inr y
  · exact .inl (.inr z)
  · rcases q.new a (.inr z) with y | y
    · exact .inl (.inl y)
    · exact .inr y
theorem Po.apartS {mu : Bool} {H1 : Hp} {env1 : VE} {σ0 σ1 : L2.St} {ow1 : Own} {os : List Addr} (s : ES R H Rs env σ0 ow) (p : Po R Rs mu ow H env1 σ1 ow1 os H1) : ∀ a ∈ os, ¬ Avd ow1 Rs a := fun a ha q => by
  rcases q with q | q
  · exact p.es.rs a (.inr ha) q
  · rcases p.new a (.inr ha) with z | z
    · exact s.rs a q z
    · exact s.rt a q z
/-- a temporary changed -/
theorem ES.tmp {S : Av} (s : ES R H Rs env σ ow) (c : Chg S H H') (hS : ∀ a, S a → Rs a) (ht : ∀ a, H a ≠ none → H' a ≠ none) (h1 : ∀ a, Rs' a → Rs a) : ES R H' Rs' env σ ow where
  len := s.len
  rep := fun i d e => by
    obtain ⟨v, hv, r⟩ := s.rep i d e
    exact ⟨v, hv, r.chg c (fun a z => .inr (hS a z)) (fun a z => .inl (z.imp id (h1 a))) fun a ha z => s.rs a (hS a z) ⟨i, ha⟩⟩
  nil := s.nil
  nd := s.nd
  dj := s.dj
  rs := fun a q => s.rs a (h1 a q)
  rt := fun a q => ht a (s.rt a (h1 a q))
end
end VS
set_option Elab.async false
set_option linter.all false
set_option maxRecDepth 100000
set_option maxHeartbeats 2000000
/-! VSw: comprehensions. -/
namespace VS
open PySem PySem.Spec PyProof.Rows L2
abbrev NoW : WX := fun _ _ _ _ => False
section
variable {G : Wd} {W : WX} {X : Cx} {c : Ck}
theorem set_ok {iter : Expr} (h : isSet iter = false) (env : Env) (x : Value) : foldedSetIterable iter env x = pure x := by
  cases iter <;> first | rfl | (simp [isSet] at h)
theorem Good.blk (g : Good c G W X) (hot : c.hot = false) {sc : Scope} {s : Shared} {H : Hp} {cl : List (Str × Addr)} {C : Addr} {fp : List Addr} : Good (c.blk sc) G NoW (X.blk s H sc (compEnvC sc cl C X.env) fp) := by
  obtain ⟨h1, h2, h3, h4, h5⟩ := g.calm hot
  refine ⟨?_, g.N, g.nd, rfl, g.K, g.nm, g.nmk, g.un, fun _ => ⟨h1, h2, fun u s' ⟨_, _, _, _, _, _, _, _, _, _, _, _, _, _, _, _, w⟩ => w.elim, h4, h5⟩, fun z => ?_⟩
  · show relS sc X.env.scope = relS sc c.sc
    rw [g.sc]
  · have : c.hot = true := z
    rw [hot] at this; cases this
theorem pts_ok {ifs : List Expr} {fs : Es} (r : SEs G W X ifs fs) (hl : ifs.length ≤ 1) : PTs X ifs (rdTs G W fs) := by
  cases r with
  | nil =>
    refine ⟨fun pins s σ H Q I ⟨env, ow, Rs, es, k⟩ => pts_nil.run pins s σ H Q I ?_⟩
    rw [evTs] at k
    exact k H ow (Po.refl es)
  | cons st h r =>
    cases r with
    | nil =>
      rename_i e a
      refine ⟨fun pins s σ H Q I ⟨env, ow, Rs, es, k⟩ => (pts_one h.pt).run pins s σ H Q I ?_⟩
      have hm : muEs G.T (.cons a .nil) = muE G.T a := by rw [muEs, muEs, Bool.or_false]
      rw [evTs, hm] at k
      refine ⟨env, ow, Rs, es, (KR.test (F := fun b e => if b then evTs G.T G.call .nil e else .ok (false, e)) k).imp fun q _ kq => ?_⟩
      obtain ⟨b, e⟩ := q
      cases b with
      | true =>
        have kq : KR G.R W Rs (muE G.T a) ow H σ (evTs G.T G.call .nil e) (TK G.R Rs (muE G.T a) ow H σ Q) := kq
        rw [evTs] at kq
        exact kq
      | false => exact kq
    | cons _ _ _ => simp at hl
theorem compL_ne {ts : List Nat} {tu : Bool} {tt : VE → Rr (Bool × VE)} {te : VE → Rr (D × VE)} : ∀ {xs acc : List D} {env : VE} {k : Nat} {ys : List D} {e : VE}, compL ts tu tt te xs acc env ≠ .ex k ys e
  | [], acc, env, k, ys, e => by unfold compL; intro h; cases h
  | x :: xs, acc, env, k, ys, e => by
    unfold compL
    intro h
    split at h
    · cases h
    · split at h
      · split at h
        · split at h
          · exact compL_ne h
          · cases h
        · cases h
      · exact compL_ne h
      · cases h
theorem freeV_fz {env : VE} : ∀ {ts : List Nat}, freeV env ts = true → ∀ j ∈ ts, ∀ d, env[j]? = some (some d) → d.isFz = true
  | [], _, j, hj, _, _ => by cases hj
  | i :: is, h, j, hj, d, e => by
    unfold freeV at h
    simp only [Bool.and_eq_true] at h
    rcases List.mem_cons.mp hj with z | z
    · subst z
      have : getV env j = some d := by unfold getV; rw [e]
      rw [this] at h
      exact h.1
    · exact freeV_fz h.2 j z d e
theorem comp_rd {e : E} {ts : List Nat} {tu : Bool} {it : VS.I} {fs : Es} {σ : L2.St} {H : Hp} {Q : VK} (q0 : rdE G W (.comp e ts tu it fs) σ H Q) : tLc (rdI G W it) (gT G ts tu) (rdTs G NoW fs) (rdE G NoW e) ts σ H Q := by
  obtain ⟨env, ow, Rs, es, k⟩ := q0
  have hm : muE G.T (.comp e ts tu it fs) = (muE G.T e || muI G.T it || muEs G.T fs) := by rw [muE]
  rw [evX, hm] at k
  generalize hmu : (muE G.T e || muI G.T it || muEs G.T fs) = mu at k
  have l1 : muI G.T it = true → mu = true := fun z => by rw [← hmu]; exact m3b z
  have l2 : muE G.T e = true → mu = true := fun z => by rw [← hmu]; exact m3a z
  have l3 : muEs G.T fs = true → mu = true := fun z => by rw [← hmu]; exact m3c z
  have k : KR G.R W Rs mu ow H σ ((evI G.T G.call it env).bind fun p => if freeV p.2 ts then
      (compL ts tu (fun v => evTs G.T G.call fs v) (fun v => evX G.T G.call false e v) p.1 [] (wipeV p.2 ts)).bind fun r => .ok (.lst true r.1, backV p.2 r.2 ts)
    else .no) (EK G.R Rs mu ow H σ Q) := k
  refine ⟨env, ow, Rs, es, (k.bind.le l1).imp fun p _ kp H1 ow1 J po1 src Dn hD => ?_⟩
  split at kp
  · rename_i hfree
    cases hcl : compL ts tu (fun v => evTs G.T G.call fs v) (fun v => evX G.T G.call false e v) p.1 [] (wipeV p.2 ts) with
    | no => rw [hcl] at kp; exact kp.elim
    | ex k ys e => exact (compL_ne hcl).elim
    | ok re =>
      obtain ⟨res, envf⟩ := re
      rw [hcl] at kp
      have kp : EK G.R Rs mu ow H σ Q (.lst true res, backV p.2 envf ts) := kp
      obtain ⟨Gd, Y, walk, hsrc⟩ := src
      have es1 : ES G.R H1 Rs p.2 σ ow1 := po1.es.less fun a q => Tm.nil.mpr q
      have esw := es1.wipe ts
      -- how far the walk's items stand
      have hA : ∀ a, (mu = true ∧ Ow (ow0 ow1 ts) a) → Avd ow1 Rs a := fun a q => .inl (ow0_sub q.2)
      have hB : ∀ {envi : VE} {owi : Own} {X' : List Addr} {Hc : Hp}, Po G.R Rs mu (ow0 ow1 ts) H1 envi (L2.wipe σ ts) owi X' Hc → ∀ a, Avd owi (Tm Rs X') a → Avd ow1 Rs a ∨ H1 a = none := fun {envi owi X' Hc} po a q => by
        rcases q with q | q | q
        · rcases po.new a (.inl q) with z | z
          · exact .inl (.inl (ow0_sub z))
          · exact .inr z
        · exact .inl (.inr q)
        · rcases po.new a (.inr q) with z | z
          · exact .inl (.inl (ow0_sub z))
          · exact .inr z
      refine lc_it walk (fun i Hc => ∃ acc accV envi owi osa, Po G.R Rs mu (ow0 ow1 ts) H1 envi (L2.wipe σ ts) owi (Dn :: osa) Hc ∧ Hc Dn = some (.lst accV) ∧ RPs G.R Hc (Avd owi (Tm Rs (Dn :: osa))) acc accV osa ∧
        compL ts tu (fun v => evTs G.T G.call fs v) (fun v => evX G.T G.call false e v) (p.1.drop i) acc envi = .ok (res, envf)) ?_ (fun i Hc _ ⟨acc, accV, envi, owi, osa, po, _⟩ => (hsrc _ Hc (po.chg esw) hA).1) ?_ ?_
      · exact ⟨[], [], wipeV p.2 ts, ow0 ow1 ts, [], (Po.refl esw).grow (Gr.new hD) (fun a ha => by
          simp only [List.mem_singleton] at ha
          subst ha
          exact .inr ⟨hD, by rw [upd_same]; simp⟩) (by simp), upd_same, RPs.nil, hcl⟩
      · rintro i x Hc H' hlt ⟨acc, accV, envi, owi, osa, po, hDn, racc, hcomp⟩ y
        have hget : p.1[i]? = some p.1[i] := List.getElem?_eq_getElem hlt
        obtain ⟨gr, hrp⟩ := (hsrc _ Hc (po.chg esw) hA).2 i x H' _ hget y
        rw [List.drop_eq_getElem_cons hlt] at hcomp
        unfold compL at hcomp
        split at hcomp
        · cases hcomp
        · rename_i env1 hset
          have exi : ∀ {Hz : Hp}, Gr Hc Hz → ∀ a, Tm Rs (Dn :: osa) a → Hz a ≠ none := fun {Hz} g a z => by
            have := po.es.rt a z
            cases q : Hc a with
            | none => exact absurd q this
            | some o => rw [g a o q]; simp
          have esi : ES G.R H' (Tm Rs (Dn :: osa)) envi (L2.wipe σ ts) owi := po.es.grow gr (fun a q => .inl q) (exi gr)
          refine ⟨envi, owi, Tm Rs (Dn :: osa), _, env1, esi, hrp _ (hB po), hset, fun σ2 ow2 es2 hsub hout hlen => ?_⟩
          have hw2 : L2.wipe σ2 ts = L2.wipe σ ts := by
            rw [wipe_eq hout hlen, wipe_wipe]
          refine ⟨hw2, ?_⟩
          have pot : Po G.R (Tm Rs (Dn :: osa)) false owi Hc env1 σ2 ow2 [] H' := by
            refine ⟨es2.less fun a q => Tm.nil.mp q, fun a q => ?_, fun a o e' _ => gr a o e', fun a q => ?_, by simp⟩
            · rcases q with q | q
              · exact .inl (hsub a q)
              · cases q
            · cases q' : Hc a with
              | none => exact absurd q' q
              | some o => rw [gr a o q']; simp
          -- back in the block's frame at the turn's end
          have fin : ∀ {env3 : VE} {ow4 : Own} {osz : List Addr} {H4 : Hp}, Po G.R Rs mu (ow0 ow1 ts) H1 env3 σ2 ow4 (Dn :: osz) H4 → ∀ {H5 : Hp}, Chg (fun a => a = Dn) H4 H5 → (∀ a, H4 a ≠ none → H5 a ≠ none) → Po G.R Rs mu (ow0 ow1 ts) H1 (wipeV env3 ts) (L2.wipe σ ts) (ow0 ow4 ts) (Dn :: osz) H5 := fun {env3 ow4 osz H4} pz {H5} cz tz => by
            refine ⟨?_, fun a q => ?_, fun a o e' q => cz.same a o (pz.fr a o e' q) fun z => ?_, fun a q => tz a (pz.trk a q), pz.nd⟩
            · rw [← hw2]
              exact (pz.es.wipe ts).tmp cz (fun a z => .inr (by subst z; exact List.mem_cons_self)) tz fun a z => z
            · rcases q with q | q
              · exact pz.new a (.inl (ow0_sub q))
              · exact pz.new a (.inr q)
            · subst z; rw [hD] at e'; cases e'
          split at hcomp
          · rename_i env2 htt
            split at hcomp
            · rename_i yv env3 hte
              split at hcomp
              · rename_i hlen'
                refine ⟨env1, ow2, _, pot.es, ?_⟩
                rw [htt]
                intro H3 ow3 po3
                have q3 := Po.seqS (os := []) pot po3 (by simp) (by simp)
                rw [if_pos rfl]
                refine ⟨env2, ow3, _, q3.es, ?_⟩
                rw [hte]
                intro w H4 ow4 osy po4 ry
                have q4 := Po.seqS (os := osy) q3 po4 (fun a h => .inr h) po4.nd
                have hD4 : H4 Dn = some (.lst accV) := q4.fr Dn _ hDn fun _ => po.es.rs Dn (.inr List.mem_cons_self)
                have racc4 := q4.keepsS po.es racc fun a ha => .inr (List.mem_cons_of_mem _ ha)
                have ap := q4.apartS po.es
                have nd : (Dn :: (osa ++ osy)).Nodup := by
                  rw [← List.cons_append]
                  exact List.nodup_append.mpr ⟨po.nd, po4.nd, fun a ha b hb e' => ap b hb (.inr (.inr (e' ▸ ha)))⟩
                have qT := (Po.seqS (os := Dn :: (osa ++ osy)) po q4 (fun a h => by
                  rcases List.mem_cons.mp h with z | z
                  · exact .inl (by rw [z]; exact List.mem_cons_self)
                  · rcases List.mem_append.mp z with z | z
                    · exact .inl (List.mem_cons_of_mem _ z)
                    · exact .inr z) nd).le (m2 := mu) fun z => by
                  simp only [Bool.or_eq_true] at z
                  rcases z with z | (z | z) | z
                  · exact z
                  · cases z
                  · exact l3 z
                  · exact l2 z
                have cD := upd_hp (o := .lst (accV ++ [w])) hD4 trivial
                refine ⟨accV, hD4, ?_, acc ++ [yv], accV ++ [w], wipeV env3 ts, ow0 ow4 ts, osa ++ osy, fin qT cD fun a q => ?_, upd_same, ?_, hcomp⟩
                · have z := of_decide_eq_true (show decide (acc.length + 1 ≤ 16000000) = true from hlen')
                  rw [racc.length, sizeLine_eq]; omega
                · by_cases hb : a = Dn
                  · subst hb; rw [upd_same]; simp
                  · rw [upd_ne hb]; exact q
                · refine (racc4.append (RPs.one (ry.avoid (A' := Avd ow4 (Tm (Tm Rs (Dn :: osa)) osy)) fun a q => .inl ?_))).chg cD (fun a z => .inr (.inl (.inr (by subst z; exact List.mem_cons_self)))) (fun a q => .inl ?_) (fun a ha z => ?_)
                  · rcases q with q | q | q
                    · exact .inl q
                    · exact .inr (.inl (.inl q))
                    · exact .inr (.inr q)
                  · rcases q with q | q | q
                    · exact .inl (ow0_sub q)
                    · exact .inr (.inl (.inl q))
                    · rcases List.mem_cons.mp q with q | q
                      · exact .inr (.inl (.inr (by rw [q]; exact List.mem_cons_self)))
                      · rcases List.mem_append.mp q with q | q
                        · exact .inr (.inl (.inr (List.mem_cons_of_mem _ q)))
                        · exact .inr (.inr q)
                  · subst z
                    exact (List.nodup_cons.mp nd).1 ha
              · cases hcomp
            · cases hcomp
          · rename_i env2 htt
            refine ⟨env1, ow2, _, pot.es, ?_⟩
            rw [htt]
            intro H3 ow3 po3
            have q3 := Po.seqS (os := []) pot po3 (by simp) (by simp)
            rw [if_neg (by simp)]
            have hD3 : H3 Dn = some (.lst accV) := q3.fr Dn _ hDn fun _ => po.es.rs Dn (.inr List.mem_cons_self)
            have qT := (Po.seqS (os := Dn :: osa) po q3 (fun a h => .inl h) po.nd).le (m2 := mu) fun z => by
              simp only [Bool.or_eq_true] at z
              rcases z with z | z | z
              · exact z
              · cases z
              · exact l3 z
            refine ⟨acc, accV, wipeV env2 ts, ow0 ow3 ts, osa, fin qT ⟨fun a o e' _ => e', fun a o z e' => by subst z; rw [hD3] at e'; cases e'; trivial⟩ fun a q => q, hD3, ?_, hcomp⟩
            have racc3 := q3.keepsS po.es racc fun a ha => .inr (List.mem_cons_of_mem _ ha)
            refine racc3.avoid fun a q => .inl ?_
            rcases q with q | q
            · exact .inl (ow0_sub q)
            · exact .inr (.inl q)
          · cases hcomp
      · rintro Hc ⟨acc, accV, envi, owi, osa, po, hDn, racc, hcomp⟩
        rw [List.drop_length] at hcomp
        unfold compL at hcomp
        cases hcomp
        have eb := ES.back (env0 := p.2) po.es fun j hj d e' => by
          obtain ⟨v, hv, r⟩ := es1.rep j d e'
          have z := r.fz_nil (freeV_fz hfree j hj d e')
          rw [z] at r
          exact ⟨v, hv, r.chg (po.chg esw) hA (hB po) (by simp)⟩
        refine kp (.ref Dn) Hc _ (Dn :: osa) ⟨eb, fun a q => ?_, fun a o e' q => ?_, fun a q => po.trk a (po1.trk a q), po.nd⟩ ?_
        · have z : Ow (ow0 ow1 ts) a ∨ H1 a = none := by
            rcases q with q | q
            · exact po.new a (.inl (ow0_sub q))
            · exact po.new a (.inr q)
          rcases z with z | z
          · exact po1.new a (.inl (ow0_sub z))
          · right
            cases e' : H a with
            | none => rfl
            | some o => exact absurd z (po1.trk a (by rw [e']; simp))
        · refine po.fr a o (po1.fr a o e' fun z => q (l1 z)) fun z w => ?_
          rcases po1.new a (.inl (ow0_sub w)) with y | y
          · exact q z y
          · rw [e'] at y; cases y
        · unfold RP
          simp only [if_true]
          exact ⟨Dn, accV, osa, rfl, rfl, hDn, racc.avoid fun a q => .inl (q.imp ow0_sub id)⟩
  · exact kp.elim
theorem s_comp (g : Good c G W X) (hot : c.hot = false) {elt tg iter : Expr} {ifs : List Expr} {sc : Scope} {p : Pos} {e : E} {ts : List Nat} {tu : Bool} {it : VS.I} {fs : Es} {own : List (Str × Nat)} (hi : PI X tg iter (rdI G W it)) (hb : blkC c.N c.sc sc own = true) (hts : own.map (·.2) = ts)
    (hset : isSet iter = false) (hT : okT (c.blk sc) tg ts tu = true) (he : ∀ X', Good (c.blk sc) G NoW X' → SE G NoW X' elt e) (hf : ∀ X', Good (c.blk sc) G NoW X' → SEs G NoW X' ifs fs) (hl : ifs.length ≤ 1) : SE G W X (.ListComp elt [⟨tg, iter, ifs, 0⟩] sc p) (.comp e ts tu it fs) := by
  obtain ⟨h1, h2, h3, h4, h5⟩ := g.calm hot
  have hbk : BlkOk X.N X.env.scope sc own := by
    rw [g.N, g.sc]
    exact blkOk_by hb
  have pe : PE X (.ListComp elt [⟨tg, iter, ifs, 0⟩] sc p) (rdE G W (.comp e ts tu it fs)) := PEimp (pe_lc h1 g.nd hi hbk (fun s H C cl fp => pg_T (g.blk hot) h1 hT) (fun s H C cl fp => pts_ok (hf _ (g.blk hot)) hl) (fun s H C cl fp => (he _ (g.blk hot)).pe) (set_ok hset X.env)) fun σ H Q q => by
    rw [hts]
    exact comp_rd q
  exact ⟨pe, pt_gen g.K pe (fun _ => rfl) (fun env => by rw [evX, evX]; rfl), no_p fun _ => by unfold peek; rfl, no_s fun _ => by unfold smp; rfl⟩
end
end VS
set_option Elab.async false
set_option linter.all false
set_option maxRecDepth 100000
set_option maxHeartbeats 2000000
/-! VSx: every expression. -/
namespace VS
open PySem PySem.Spec PyProof.Rows L2
section
variable {G : Wd}
theorem s_xat {W : WX} {X : Cx} {c : Ck} (g : Good c G W X) (hot : c.hot = true) {x : Str} {q p : Pos} {i : Nat} {f : Str} (hv : c.var x i = true) : SE G W X (.Attribute (.Name x q) f p) (.xat i f) := by
  have hm : muE G.T (.xat i f) = false := by rw [muE]
  have hx : PE X (.Name x q) (tVar i) := by
    obtain ⟨h1, h2, h3, h4⟩ := var_vis g hv
    exact pe_var h1 h2 h3 h4
  have key : ∀ {σ H Q env ow Rs}, ES G.R H Rs env σ ow → KR G.R W Rs false ow H σ (match getV env i with
    | some (.exv c vs) => match G.T.cls[c]? with
      | some cl => match idxF f cl.fl with
        | some j => optR ((vs[j]?).map fun d => (d, env))
        | none => .no
      | none => .no
    | _ => .no) (EK G.R Rs false ow H σ Q) → ∃ k vs cl j d, getV env i = some (.exv k vs) ∧ G.T.cls[k]? = some cl ∧ idxF f cl.fl = some j ∧ vs[j]? = some d ∧ EK G.R Rs false ow H σ Q (d, env) := fun {σ H Q env ow Rs} es k => by
    split at k
    · rename_i kk vs hg
      split at k
      · rename_i cl hcl
        split at k
        · rename_i j hj
          obtain ⟨z, hz, kz⟩ := k.opt
          obtain ⟨d, hd, rfl⟩ := Option.map_eq_some_iff.mp hz
          exact ⟨kk, vs, cl, j, d, hg, hcl, hj, hd, kz⟩
        · exact k.elim
      · exact k.elim
    · exact k.elim
  have pe : PE X (.Attribute (.Name x q) f p) (rdE G W (.xat i f)) := by
    obtain ⟨X₀, a, oe, pn, e, dd, cl, rfl, hz, hf, hexc, hcl, hfl, hnd, hT, hno⟩ := g.hot hot
    by_cases hff : f ∈ cl.fl
    · have hno' := hno f hff
      have hT' := hT
      rw [← g.K] at hno' hT'
      refine PEimp (pe_xf hT' hno' hz hf hx rfl) fun σ H Q ⟨env, ow, Rs, es, k⟩ => ?_
      rw [evX, hm] at k
      obtain ⟨kk, vs, cl', j, d, hg, hcl', hj, hd, kd⟩ := key es k
      obtain ⟨v, hv', r⟩ := env_get es hg
      refine ⟨v, hv', ?_⟩
      unfold RP at r
      obtain ⟨_, a', dd', ws, rfl, hex, hH, hl, rr⟩ := r
      rw [hexc] at hex
      cases hex
      rw [hcl] at hcl'
      cases hcl'
      obtain ⟨w, hw, rw'⟩ := rr.get0 hd
      exact ⟨rfl, rfl, dd, _, w, rfl, hH, idx_lookup (by rw [hfl]; exact hj) hw, kd w H ow [] (Po.refl es) (rw'.avoid fun a q => .inl (AvdTm.mp q))⟩
    · refine PEnone fun σ H Q ⟨env, ow, Rs, es, k⟩ => ?_
      rw [evX, hm] at k
      obtain ⟨kk, vs, cl', j, d, hg, hcl', hj, hd, kd⟩ := key es k
      obtain ⟨v, hv', r⟩ := env_get es hg
      unfold RP at r
      obtain ⟨_, a', dd', ws, rfl, hex, hH, hl, rr⟩ := r
      rw [hexc] at hex
      cases hex
      rw [hcl] at hcl'
      cases hcl'
      exact hff (idx_mem hj)
  exact ⟨pe, pt_gen g.K pe (fun _ => rfl) (fun env => by rw [evX, evX]; rfl), no_p fun _ => by unfold peek; rfl, no_s fun _ => by unfold smp; rfl⟩
theorem s_lmno {W : WX} {X : Cx} {e : Expr} {m : Lm} {o : E} {as : Es} (h : ∀ k env, evX G.T G.call k (.lm m o as) env = fin k .no) : SE G W X e (.lm m o as) := by
  refine ⟨PEnone fun σ H Q ⟨env, ow, Rs, es, k⟩ => by rw [h] at k; exact k, PTnone fun σ H Q ⟨env, ow, Rs, es, k⟩ => by unfold evT at k; rw [h] at k; exact k, no_p fun _ => by unfold peek; rfl, no_s fun _ => by unfold smp; rfl⟩
theorem kop_eq {o : BoolOp} {k : Bool} (h : decide (o = if k then BoolOp.And else BoolOp.Or) = true) : o = kop k := by
  have := of_decide_eq_true h
  rw [this]
  rfl
theorem not_tt {b : Bool} (h : (!b) = true) : b = false := by cases b <;> simp at h ⊢
mutual
theorem sndE : ∀ (a : E) {c : Ck} {W : WX} {X : Cx} {e : Expr}, okE c e a = true → Good c G W X → SE G W X e a
  | .never, c, W, X, e, h, g => s_never
  | .var i, c, W, X, e, h, g => by
    unfold okE at h
    split at h
    · rename_i x hx
      obtain ⟨p, rfl⟩ := vName_eq hx
      exact s_var g h
    · cases h
  | .con d, c, W, X, e, h, g => by
    unfold okE at h
    split at h
    · rename_i k hk
      exact s_con g hk h
    · cases h
  | .glo d, c, W, X, e, h, g => by
    unfold okE at h
    split at h
    · rename_i x hx
      obtain ⟨p, rfl⟩ := vName_eq hx
      simp only [Bool.and_eq_true] at h
      exact s_glo g h.1 h.2
    · cases h
  | .xat i f, c, W, X, e, h, g => by
    unfold okE at h
    split at h
    · rename_i o f' hx
      obtain ⟨p, rfl⟩ := vAttr_eq hx
      simp only [Bool.and_eq_true, decide_eq_true_eq] at h
      obtain ⟨rfl, h1, h2⟩ := h
      split at h1
      · rename_i x hn
        obtain ⟨q, rfl⟩ := vName_eq hn
        exact s_xat g h2 h1
      · cases h1
    · cases h
  | .frz a, c, W, X, e, h, g => by
    unfold okE at h
    rw [Bool.and_eq_true] at h
    exact s_frz (sndE a h.2 g)
  | .neg a, c, W, X, e, h, g => by
    unfold okE at h
    split at h
    · rename_i x hx
      obtain ⟨p, rfl⟩ := vUn_eq hx
      exact s_neg g.K (sndE a h g)
    · cases h
  | .bin o a b, c, W, X, e, h, g => by
    unfold okE at h
    split at h
    · rename_i p x y hx
      obtain ⟨q, rfl⟩ := vBin_eq hx
      simp only [Bool.and_eq_true, decide_eq_true_eq] at h
      obtain ⟨rfl, h1, h2⟩ := h
      exact s_bin g (sndE a h1 g) (sndE b h2 g)
    · cases h
  | .cmp o a b, c, W, X, e, h, g => by
    unfold okE at h
    split at h
    · rename_i p x y hx
      obtain ⟨q, rfl⟩ := vCmp_eq hx
      simp only [Bool.and_eq_true, decide_eq_true_eq] at h
      obtain ⟨rfl, ⟨h1, h2⟩, h3⟩ := h
      exact s_cmp g (sndE a h1 g) (sndE b h2 g) h3
    · cases h
  | .cmp2 _ _ _ _ _, c, W, X, e, h, g => by unfold okE at h; cases h
  | .bool k as, c, W, X, e, h, g => by
    unfold okE at h
    split at h
    · rename_i o es hx
      obtain ⟨q, rfl⟩ := vBool_eq hx
      simp only [Bool.and_eq_true] at h
      rw [kop_eq h.1]
      exact s_bool (sndEs as h.2 g)
    · cases h
  | .not a, c, W, X, e, h, g => by
    unfold okE at h
    split at h
    · rename_i x hx
      obtain ⟨p, rfl⟩ := vUn_eq hx
      exact s_not g.K (sndE a h g)
    · cases h
  | .ite k a b, c, W, X, e, h, g => by
    unfold okE at h
    split at h
    · rename_i x y z hx
      obtain ⟨p, rfl⟩ := vIf_eq hx
      simp only [Bool.and_eq_true] at h
      exact s_ite (sndE k h.1 g) (sndE a h.2.1 g) (sndE b h.2.2 g)
    · cases h
  | .call f as ks kv, c, W, X, e, h, g => by
    unfold okE at h
    split at h
    · rename_i x es kws hx
      obtain ⟨q, p, rfl⟩ := vCallN_eq hx
      simp only [Bool.and_eq_true, decide_eq_true_eq, Bool.or_eq_true] at h
      obtain ⟨h0, h1, h2, h3, h4, h5⟩ := h
      refine s_call g (not_tt h0) h2 h1 (sndEs as h3 g) (sndKs kv h4 g) h5 fun i es' e => ?_
      subst e
      cases es with
      | nil => unfold okEs at h3; cases h3
      | cons e0 r =>
        unfold okEs at h3
        simp only [Bool.and_eq_true] at h3
        obtain ⟨hs, hv, hr⟩ := h3
        refine ⟨e0, r, rfl, ?_, not_tt hs, sndEs es' hr g⟩
        unfold okE at hv
        split at hv
        · rename_i x' hx'
          obtain ⟨p', rfl⟩ := vName_eq hx'
          obtain ⟨n1, n2, n3, n4⟩ := var_vis g hv
          exact pe_var n1 n2 n3 n4
        · cases hv
    · cases h
  | .new k as ks kv, c, W, X, e, h, g => by
    unfold okE at h
    split at h
    · rename_i x es kws hx
      obtain ⟨q, p, rfl⟩ := vCallN_eq hx
      simp only [Bool.and_eq_true, decide_eq_true_eq] at h
      obtain ⟨h0, h1, h2, h3, h4, h5⟩ := h
      exact s_new g (not_tt h0) h2 h1 (sndEs as h3 g) (sndKs kv h4 g) h5
    · cases h
  | .meth _ _ _, c, W, X, e, h, g => by unfold okE at h; cases h
  | .attr o f, c, W, X, e, h, g => by
    unfold okE at h
    split at h
    · rename_i x f' hx
      obtain ⟨p, rfl⟩ := vAttr_eq hx
      simp only [Bool.and_eq_true, decide_eq_true_eq] at h
      obtain ⟨h0, rfl, h1, h2⟩ := h
      exact s_attr g (not_tt h0) h1 (sndE o h2 g)
    · cases h
  | .sub o i, c, W, X, e, h, g => by
    unfold okE at h
    split at h
    · rename_i x y hx
      obtain ⟨p, rfl, hs⟩ := vSub_eq hx
      simp only [Bool.and_eq_true] at h
      obtain ⟨h0, h1, h2⟩ := h
      exact s_sub g (not_tt h0) hs (sndE o h1 g) (sndE i h2 g)
    · cases h
  | .slc _ _ _, c, W, X, e, h, g => by unfold okE at h; cases h
  | .tup as, c, W, X, e, h, g => by
    unfold okE at h
    split at h
    · rename_i es hx
      obtain ⟨k, p, rfl⟩ := vTup_eq hx
      exact s_tup g.K (sndEs as h g)
    · cases h
  | .lst as, c, W, X, e, h, g => by
    unfold okE at h
    split at h
    · rename_i es hx
      obtain ⟨p, rfl⟩ := vLst_eq hx
      exact s_lst g.K (sndEs as h g)
    · cases h
  | .comp x ts tu it ifs, c, W, X, e, h, g => by
    unfold okE at h
    split at h
    · rename_i y t i fs sc hx
      obtain ⟨p, rfl⟩ := vComp_eq hx
      simp only [Bool.and_eq_true, decide_eq_true_eq] at h
      obtain ⟨h0, h1, h2, h3, h4, h5, h6, h7⟩ := h
      have hi := sndI it h1 (not_tt h0) g
      exact s_comp g (not_tt h0) hi.1 h2 h4 hi.2 h3 (fun X' g' => sndE x h5 g') (fun X' g' => sndEs ifs h6 g') h7
    · cases h
  | .blt b as, c, W, X, e, h, g => by
    unfold okE at h
    split at h
    · rename_i x es hx
      obtain ⟨q, p, rfl⟩ := vCallN_eq hx
      simp only [Bool.and_eq_true, decide_eq_true_eq] at h
      obtain ⟨h0, h1, h2, h3, h4, h5⟩ := h
      exact s_blt g (not_tt h0) h1 h3 h2 (sndEs as h4 g) h5
    · cases h
  | .lm m o as, c, W, X, e, h, g => by
    unfold okE at h
    split at h
    · rename_i x n es hx
      obtain ⟨q, p, rfl, hl⟩ := vCallM_eq hx
      simp only [Bool.and_eq_true, decide_eq_true_eq] at h
      obtain ⟨rfl, h1, h2, h3, h4⟩ := h
      cases as with
      | nil =>
        cases es with
        | cons _ _ => unfold okEs at h3; cases h3
        | nil =>
          cases m with
          | pop => exact s_pop g h1 hl (sndE o h2 g)
          | reverse => exact s_reverse g h1 hl (sndE o h2 g)
          | append => exact s_lmno fun m env => by unfold evX; rfl
          | extend => exact s_lmno fun m env => by unfold evX; rfl
      | cons a as' =>
        cases as' with
        | cons _ _ => exact s_lmno fun k env => by cases m <;> (unfold evX; rfl)
        | nil =>
          cases es with
          | nil => unfold okEs at h3; cases h3
          | cons y ys =>
            cases ys with
            | cons _ _ => unfold okEs at h3; simp [okEs] at h3
            | nil =>
              unfold okEs at h3
              simp only [Bool.and_eq_true] at h3
              cases m with
              | append =>
                cases o with
                | var i =>
                  unfold okE at h2
                  split at h2
                  · rename_i x' hx'
                    obtain ⟨p', rfl⟩ := vName_eq hx'
                    obtain ⟨n1, n2, n3, n4⟩ := var_vis g h2
                    exact s_append g (pe_var n1 n2 n3 n4) h1 hl (not_tt h3.1) (sndE a h3.2.1 g)
                  · cases h2
                | _ => exact s_lmno fun m env => by unfold evX; rfl
              | _ => exact s_lmno fun m env => by unfold evX; rfl
    · cases h
theorem sndEs : ∀ (as : Es) {c : Ck} {W : WX} {X : Cx} {es : List Expr}, okEs c es as = true → Good c G W X → SEs G W X es as
  | .nil, c, W, X, es, h, g => by
    cases es with
    | nil => exact .nil
    | cons _ _ => unfold okEs at h; cases h
  | .cons a as, c, W, X, es, h, g => by
    cases es with
    | nil => unfold okEs at h; cases h
    | cons e es =>
      unfold okEs at h
      simp only [Bool.and_eq_true] at h
      exact .cons (not_tt h.1) (sndE a h.2.1 g) (sndEs as h.2.2 g)
theorem sndKs : ∀ (as : Es) {c : Ck} {W : WX} {X : Cx} {kws : List Keyword} {ks : List Str}, okKs c kws ks as = true → Good c G W X → SKs G W X kws ks as
  | .nil, c, W, X, kws, ks, h, g => by
    unfold okKs at h
    split at h
    · exact .nil
    · rename_i heq; cases heq
    · cases h
    · cases h
  | .cons a as, c, W, X, kws, ks, h, g => by
    unfold okKs at h
    split at h
    · rename_i heq; cases heq
    · rename_i heq
      cases heq
      simp only [Bool.and_eq_true, decide_eq_true_eq] at h
      obtain ⟨rfl, h1, h2⟩ := h
      exact .cons (sndE a h1 g) (sndKs as h2 g)
    · cases h
    · cases h
theorem sndI : ∀ (it : VS.I) {c : Ck} {W : WX} {X : Cx} {tg e : Expr}, okI c tg e it = true → c.hot = false → Good c G W X → PI X tg e (rdI G W it) ∧ isSet e = false
  | .val a, c, W, X, tg, e, h, hot, g => by
    unfold okI at h
    simp only [Bool.and_eq_true] at h
    exact ⟨pi_val g (sndE a h.2 g), not_tt h.1⟩
  | .rng as, c, W, X, tg, e, h, hot, g => by
    unfold okI at h
    split at h
    · rename_i x es hx
      obtain ⟨q, p, rfl⟩ := vCallN_eq hx
      simp only [Bool.and_eq_true, decide_eq_true_eq] at h
      obtain ⟨h1, h2, h3, h4⟩ := h
      exact ⟨pi_rng g h1 h2 (sndEs as h3 g) h4, rfl⟩
    · cases h
  | .zip a b, c, W, X, tg, e, h, hot, g => by
    unfold okI at h
    split at h
    · rename_i x y z hx
      obtain ⟨q, p, rfl⟩ := vCallN_eq hx
      simp only [Bool.and_eq_true, decide_eq_true_eq] at h
      obtain ⟨h1, h2, h3, ⟨h4, h5⟩, h6, h7⟩ := h
      obtain ⟨elts, hel⟩ := Option.isSome_iff_exists.mp h3
      obtain ⟨kk, tp, rfl⟩ := vTup_eq hel
      exact ⟨pi_zip g h1 h2 (not_tt h4) (not_tt h6) (sndE a h5 g) (sndE b h7 g), rfl⟩
    · cases h
  | .enu a, c, W, X, tg, e, h, hot, g => by
    unfold okI at h
    split at h
    · rename_i x y hx
      obtain ⟨q, p, rfl⟩ := vCallN_eq hx
      simp only [Bool.and_eq_true, decide_eq_true_eq] at h
      obtain ⟨h1, h2, h3, h4, h5⟩ := h
      obtain ⟨elts, hel⟩ := Option.isSome_iff_exists.mp h3
      obtain ⟨kk, tp, rfl⟩ := vTup_eq hel
      exact ⟨pi_enu g h1 h2 (not_tt h4) (sndE a h5 g), rfl⟩
    · cases h
end
end
end VS
set_option Elab.async false
set_option linter.all false
set_option maxRecDepth 100000
set_option maxHeartbeats 2000000
/-! VSy: statements. -/
namespace VS
open PySem PySem.Spec PyProof.Rows L2
/-- slot 0 is what it was -/
def Sm (pr : Bool) (σ σ' : L2.St) : Prop := pr = true → σ'[0]? = σ[0]?
theorem Sm.refl {pr : Bool} {σ : L2.St} : Sm pr σ σ := fun _ => rfl
theorem Sm.trans {pr : Bool} {σ σ1 σ2 : L2.St} (a : Sm pr σ σ1) (b : Sm pr σ1 σ2) : Sm pr σ σ2 := fun h => (b h).trans (a h)
/-- a statement's end -/
def KS (R : Rt) (W : WX) (pr : Bool) (Rs : Av) (ow : Own) (H : Hp) (σ : L2.St) (r : Fl) (D : Ends) : Prop := match r with
  | .nx env' => ∀ σ' ow' H', Po R Rs true ow H env' σ' ow' [] H' → Sm pr σ σ' → D.nx σ' H'
  | .bk env' => ∀ σ' ow' H', Po R Rs true ow H env' σ' ow' [] H' → Sm pr σ σ' → D.bk σ' H'
  | .ct env' => ∀ σ' ow' H', Po R Rs true ow H env' σ' ow' [] H' → Sm pr σ σ' → D.ct σ' H'
  | .rt d env' => ∀ v σ' ow' os H', Po R Rs true ow H env' σ' ow' os H' → RP R H' (Avd ow' (Tm Rs os)) d v os → Sm pr σ σ' → D.rt v H'
  | .ex c xs env' => ∀ σ' ow' H' dd, Po R Rs true ow H env' σ' ow' [] H' → XB R H' (Avd ow' Rs) c xs dd → Sm pr σ σ' → W (.ref (R.ca c)) (some dd) σ' H'
  | .no => False
section
variable {R : Rt} {W : WX} {pr mu : Bool} {Rs : Av} {ow ow1 : Own} {H H1 : Hp} {σ σ1 : L2.St} {env1 : VE} {D D' : Ends}
theorem KS.fl {α : Type} {r : Rr α} {f : α → Fl} (k : KS R W pr Rs ow H σ (r.fl f) D) : KR R W Rs mu ow H σ r fun a => KS R W pr Rs ow H σ (f a) D := by
  cases r with
  | ok a => exact k
  | ex c xs e => exact fun H' ow' dd po x => k σ ow' H' dd (po.le fun _ => rfl) x Sm.refl
  | no => exact k
/-- the rest behind a statement -/
theorem KS.shift {r : Fl} (k : KS R W pr Rs ow H σ r D) (po : Po R Rs mu ow H env1 σ1 ow1 [] H1) (sm : Sm pr σ σ1) : KS R W pr (Tm Rs []) ow1 H1 σ1 r D := by
  have seq : ∀ {env' : VE} {σ' : L2.St} {ow' : Own} {os : List Addr} {H' : Hp}, Po R (Tm Rs []) true ow1 H1 env' σ' ow' os H' → Po R Rs true ow H env' σ' ow' os H' := fun p => (Po.seqS po p (fun a h => .inr h) p.nd).le fun _ => rfl
  cases r with
  | nx e => exact fun σ' ow' H' p s => k σ' ow' H' (seq p) (sm.trans s)
  | bk e => exact fun σ' ow' H' p s => k σ' ow' H' (seq p) (sm.trans s)
  | ct e => exact fun σ' ow' H' p s => k σ' ow' H' (seq p) (sm.trans s)
  | rt d e => exact fun v σ' ow' os H' p r s => k v σ' ow' os H' (seq p) (r.avoid fun a q => .inl (lessT q)) (sm.trans s)
  | ex c xs e => exact fun σ' ow' H' dd p x s => k σ' ow' H' dd (seq p) (x.less fun a q => q.imp id fun q => .inl q) (sm.trans s)
  | no => exact k
end
section
variable (G : Wd) (W : WX) (pr : Bool)
def tS (s : S) : TS := fun D σ H => ∃ env ow Rs, ES G.R H Rs env σ ow ∧ KS G.R W pr Rs ow H σ (evS G.T G.call s env) D
def tB (b : B) : TS := fun D σ H => ∃ env ow Rs, ES G.R H Rs env σ ow ∧ KS G.R W pr Rs ow H σ (evBl G.T G.call b env) D
end
section
variable {G : Wd} {W : WX} {X : Cx} {c : Ck} {pr : Bool}
theorem PSimp {st : Stmt} {t t' : TS} (h : PS X st t) (i : ∀ D σ H, t' D σ H → t D σ H) : PS X st t' := ⟨fun pins s σ H D I q => h.run pins s σ H D I (i _ _ _ q)⟩
theorem PSsimp {st : List Stmt} {t t' : TS} (h : PSs X st t) (i : ∀ D σ H, t' D σ H → t D σ H) : PSs X st t' := ⟨fun pins s σ H D I q => h.run pins s σ H D I (i _ _ _ q)⟩
theorem PSnone {st : Stmt} {t : TS} (h : ∀ D σ H, ¬ t D σ H) : PS X st t := ⟨fun pins s σ H D I q => (h D σ H q).elim⟩
theorem b_nil : PSs X [] (tB G W pr .nil) := PSsimp pss_nil fun D σ H ⟨env, ow, Rs, es, k⟩ => by
  rw [evBl] at k
  exact k σ ow H (Po.refl es) Sm.refl
theorem b_cons {s : Stmt} {ss : List Stmt} {a : S} {b : B} (h1 : PS X s (tS G W pr a)) (h2 : PSs X ss (tB G W pr b)) : PSs X (s :: ss) (tB G W pr (.cons a b)) := by
  refine PSsimp (pss_cons h1 h2) fun D σ H ⟨env, ow, Rs, es, k⟩ => ⟨env, ow, Rs, es, ?_⟩
  rw [evBl] at k
  cases hr : evS G.T G.call a env with
  | nx v =>
    rw [hr] at k
    exact fun σ' ow' H' po sm => ⟨v, ow', Tm Rs [], po.es, k.shift po sm⟩
  | bk v => rw [hr] at k; exact k
  | ct v => rw [hr] at k; exact k
  | rt d v => rw [hr] at k; exact k
  | ex c xs v => rw [hr] at k; exact k
  | no => rw [hr] at k; exact k

/-! ### x = e -/
/-- a value stored in a slot -/
theorem put_slot {R : Rt} {mu : Bool} {Rs : Av} {ow ow1 : Own} {H H1 : Hp} {σ : L2.St} {env env1 : VE} {os1 : List Addr} {d : D} {v : V} {i : Nat} (es : ES R H Rs env σ ow) (po : Po R Rs mu ow H env1 σ ow1 os1 H1) (r : RP R H1 (Avd ow1 (Tm Rs os1)) d v os1) :
    ∃ ow', Po R Rs true ow H (setV env1 i d) (σ.set i (some v)) ow' [] H1 := by
  by_cases hi : i < env1.length
  · have inc : ∀ a, Avd (setO ow1 i os1) (Tm Rs []) a → Avd ow1 (Tm Rs os1) a := fun a q => by
      rcases q with q | q
      · rcases Ow_setO.mp q with z | ⟨j, _, z⟩
        · exact .inr (.inr z)
        · exact .inl ⟨j, z⟩
      · exact .inr (.inl (Tm.nil.mp q))
    have p := ES.put (S := fun _ => False) (Rs' := Tm Rs []) (os := os1) po.es hi ⟨fun _ _ h _ => h, fun _ _ h => h.elim⟩ (fun _ z => z.elim) (fun _ z => z) (fun a z => ⟨.inl (Tm.nil.mp z), fun y => po.apart es a y (.inr (Tm.nil.mp z))⟩)
      (fun a ha => .inr (.inl (.inr ha))) po.nd (r.avoid fun a q => .inl (inc a q))
    refine ⟨_, p, fun a q => ?_, fun a o e q => po.fr a o e fun _ => q rfl, po.trk, by simp⟩
    rcases q with q | q
    · rcases Ow_setO.mp q with z | ⟨j, _, z⟩
      · exact po.new a (.inr z)
      · exact po.new a (.inl ⟨j, z⟩)
    · cases q
  · have h1 : setV env1 i d = env1 := by unfold setV; exact List.set_eq_of_length_le (by omega)
    have h2 : σ.set i (some v) = σ := List.set_eq_of_length_le (by rw [← po.es.len]; omega)
    rw [h1, h2]
    exact ⟨ow1, po.nil.le fun _ => rfl⟩
theorem sm_set {σ : L2.St} {i : Nat} {o : Option V} (h : (!pr || decide (i ≠ 0)) = true) : Sm pr σ (σ.set i o) := fun hp => by
  rw [hp] at h
  have : i ≠ 0 := by simpa using h
  exact List.getElem?_set_ne this
theorem asg_rd {i : Nat} {e : E} {D : Ends} {σ : L2.St} {H : Hp} (hp : (!pr || decide (i ≠ 0)) = true) (q : tS G W pr (.asg i e) D σ H) : rdE G W e σ H fun x H1 => D.nx (σ.set i (some x)) H1 := by
  obtain ⟨env, ow, Rs, es, k⟩ := q
  rw [evS] at k
  refine ⟨env, ow, Rs, es, k.fl.imp fun p _ kp v H1 ow1 os1 po r => ?_⟩
  obtain ⟨ow', po'⟩ := put_slot (i := i) es po r
  exact kp _ ow' H1 po' (sm_set hp)
theorem swaps_no {x : Str} {e : Expr} {l : Nat} {pos' : Pos} (hsc : X.env.scope = c.sc) (h : noSwap c x e = true) : swapsWith e (some (.Name x pos')) l X.env = pure false := by
  unfold noSwap at h
  simp only [Bool.or_eq_true, Bool.not_eq_true'] at h
  by_cases hc : isComp e = false
  · cases e <;> first | rfl | (simp [isComp] at hc)
  · rcases h with h | h
    · exact absurd h hc
    · have hk : (X.env.kindOf x == some NameKind.local) = false := by
        unfold Env.kindOf
        rw [hsc]
        unfold isLocal at h
        cases hl : c.sc.names.lookup x with
        | none => rfl
        | some k => rw [hl] at h; cases k <;> first | rfl | (simp at h)
      cases e <;> first | rfl | (unfold swapsWith; simp only [hk, Bool.and_false, Bool.false_and])
theorem s_asgC (g : Good c G W X) {y t' it : Expr} {fs : List Expr} {sc : Scope} {q : Pos} {tp : Pos} {n : Str} {i : Nat} {p : Pos} {a e : E} (h1 : X.N[i]? = some n) (hp : (!pr || decide (i ≠ 0)) = true) (s0 : (match c.sc.kind with | .function => true | _ => false) = true) (s1 : isLocal c.sc n = true) (s2 : tp.line = q.line)
    (s3 : (sc.names.any fun p => p.1 == n && (p.2 == .local || p.2 == .cell)) = false) (he : okE c (.ListComp y [⟨t', it, fs, 0⟩] sc q) a = true) (ha : notFrz a = true) (hr : ∀ σ H Q, rdE G W e σ H Q → rdE G W a σ H Q) : PS X (.Assign [.Name n tp] (.ListComp y [⟨t', it, fs, 0⟩] sc q) p) (tS G W pr (.asg i e)) := by
  have hx : vComp (.ListComp y [⟨t', it, fs, 0⟩] sc q) = some (y, t', it, fs, sc) := rfl
  cases a with
  | never =>
    exact PSnone fun D σ H z => by
      obtain ⟨env, ow, Rs, es, k⟩ := hr _ _ _ (asg_rd hp z)
      rw [evX] at k
      exact k
  | comp x' ts tu itc ifs =>
    unfold okE at he
    rw [hx] at he
    simp only [Bool.and_eq_true, decide_eq_true_eq] at he
    obtain ⟨h0, e1, e2, e3, e4, e5, e6, e7⟩ := he
    obtain ⟨c1, c2, c3, c4, c5⟩ := g.calm (not_tt h0)
    have hi := sndI itc e1 (not_tt h0) g
    have loc : X.env.scope.names.lookup n = some .local := by
      rw [g.sc]
      unfold isLocal at s1
      split at s1
      · assumption
      · cases s1
    have hbk : BlkOk X.N X.env.scope sc (ownOf t' ts tu) := by
      rw [g.N, g.sc]
      exact blkOk_by e2
    have kind : X.env.scope.kind = .function := by
      rw [g.sc]
      split at s0
      · assumption
      · cases s0
    refine PSimp (ps_setLc c1 g.nd h1 loc (sw_true kind loc (by simpa [Expr.pos] using s2) s3) hi.1 hbk (fun s H C cl fp => pg_T (g.blk (not_tt h0)) c1 e3) (fun s H C cl fp => pts_ok (sndEs ifs e6 (g.blk (not_tt h0))) e7) (fun s H C cl fp => (sndE x' e5 (g.blk (not_tt h0))).pe) (set_ok hi.2 X.env)) fun D σ H z => ?_
    have z := comp_rd (hr _ _ _ (asg_rd hp z))
    show tLc _ _ _ _ ((ownOf t' ts tu).map (·.2)) σ H _
    rw [e4]
    exact z
  | frz b => cases ha
  | _ =>
    exfalso
    unfold okE at he
    simp [vName, vConst, vAttr, vUn, vBin, vCmp, vBool, vIf, vCallN, vCallM, vSub, vTup, vLst] at he
theorem s_asg (g : Good c G W X) {t x : Expr} {n : Str} {l : Nat} {i : Nat} {e : E} {p : Pos} (hn : vNameL t = some (n, l)) (ht : c.tgt n i = true) (hp : (!pr || decide (i ≠ 0)) = true) (he : okE c x e = true) (hs : (noSwap c n x || swaps c n x l) = true) : PS X (.Assign [t] x p) (tS G W pr (.asg i e)) := by
  obtain ⟨tp, rfl, rfl⟩ := vNameL_eq hn
  obtain ⟨h1, h2, h3⟩ := tgt_ok g ht
  rw [Bool.or_eq_true] at hs
  rcases hs with hs | hs
  · exact PSimp (ps_set g.nd h1 h2 (sndE e he g).pe (swaps_no g.sc hs) h3) fun D σ H q => asg_rd hp q
  · unfold swaps at hs
    split at hs
    · rename_i y t' it fs sc hx
      obtain ⟨q, rfl⟩ := vComp_eq hx
      simp only [Bool.and_eq_true, decide_eq_true_eq, Bool.not_eq_true'] at hs
      obtain ⟨s0, s1, s2, s3⟩ := hs
      by_cases hz : ∃ b, e = .frz b
      · obtain ⟨b, rfl⟩ := hz
        unfold okE at he
        rw [Bool.and_eq_true] at he
        exact s_asgC g h1 hp s0 s1 s2 s3 he.2 he.1 fun σ H Q z => frz_rd z
      · exact s_asgC g h1 hp s0 s1 s2 s3 he (by cases e <;> first | rfl | exact absurd ⟨_, rfl⟩ hz) fun σ H Q z => z
    · cases hs
end
end VS
set_option Elab.async false
set_option linter.all false
set_option maxRecDepth 100000
set_option maxHeartbeats 2000000
/-! VSz: the other plain statements. -/
namespace VS
open PySem PySem.Spec PyProof.Rows L2
section
variable {G : Wd} {W : WX} {X : Cx} {c : Ck} {pr : Bool}
theorem notDisp_ok {e : Expr} (h : notDisp e = true) : isComp e = false ∧ ∀ ts k p, swappedStores [.Tuple ts k p] e X.env = pure none := by
  cases e <;> first | (simp [notDisp] at h; done) | (simp [notDisp, isComp] at h; done) | (exact ⟨rfl, fun _ _ _ => rfl⟩)
theorem sole_no {t e : Expr} {l : Nat} (h : isComp e = false) : swapsWithSole [t] e l X.env = pure false := by
  cases e <;> first | rfl | (simp [isComp] at h)
theorem kind_no {sc : Scope} {x : Str} (h : isLocal sc x = false) : (sc.names.lookup x == some .local) = false := by
  unfold isLocal at h
  split at h
  · cases h
  · rename_i q
    cases e : sc.names.lookup x with
    | none => rfl
    | some k =>
      cases k with
      | «local» => exact absurd e q
      | _ => rfl
theorem cell_ok (hs : X.env.scope = c.sc) {t x : Expr} (h : cellPair c t x = true) : isComp x = false ∧ swappedStores [t] x X.env = pure none := by
  unfold cellPair at h
  split at h
  · rename_i n p1 m p2 k1 q1 a b k2 q2
    refine ⟨rfl, ?_⟩
    simp only [Bool.not_eq_true', Bool.and_eq_false_iff] at h
    unfold swappedStores
    simp only [List.length_cons, List.length_nil]
    split
    · rfl
    · split
      · rfl
      · have key : ∀ l : Nat, (([Expr.Name n p1, Expr.Name m p2].filterMap fun
            | .Name id pos => if X.env.kindOf id == some .local && pos.line == l then some id else none
            | _ => none).length != 2) = true := fun l => by
          have hk : ∀ y, X.env.kindOf y = c.sc.names.lookup y := fun y => by rw [← hs]; rfl
          simp only [List.filterMap_cons, List.filterMap_nil, hk]
          rcases h with h | h
          · rw [kind_no h]
            simp only [Bool.false_and, Bool.false_eq_true, if_false]
            split <;> simp
          · rw [kind_no h]
            simp only [Bool.false_and, Bool.false_eq_true, if_false]
            split <;> simp
        have := key ((([Expr.Name n p1, Expr.Name m p2].head?).map (·.pos.line)).getD 0)
        rw [if_pos (by rw [Bool.or_eq_true]; exact .inl this)]
  · cases h
theorem s_asgT (g : Good c G W X) (hot : c.hot = false) {t x : Expr} {is : List Nat} {e : E} {p : Pos} (ht : okT c t is true = true) (hp : (!pr || decide (0 ∉ is)) = true) (he : okE c x e = true) (hd : (notDisp x || cellPair c t x) = true) : PS X (.Assign [t] x p) (tS G W pr (.asgT is e)) := by
  obtain ⟨c1, c2, c3, c4, c5⟩ := g.calm hot
  have ht' := ht
  unfold okT at ht'
  simp only at ht'
  split at ht'
  · rename_i es hes
    obtain ⟨k, tp, rfl⟩ := vTup_eq hes
    have hn : isComp x = false ∧ swappedStores [.Tuple es k tp] x X.env = pure none := by
      rw [Bool.or_eq_true] at hd
      rcases hd with hd | hd
      · obtain ⟨n1, n2⟩ := notDisp_ok (X := X) hd
        exact ⟨n1, n2 _ _ _⟩
      · exact cell_ok g.sc hd
    obtain ⟨n1, n2⟩ := hn
    refine PSimp (ps_asg (sndE e he g).pe (pg_T g c1 ht) (sole_no n1) n2 rfl) fun D σ H ⟨env, ow, Rs, es, k⟩ => ?_
    rw [evS] at k
    refine ⟨env, ow, Rs, es, k.fl.imp fun p _ kp v H1 ow1 os1 po r => ?_⟩
    split at kp
    · rename_i env' hs
      have hf : os1 = [] := by
        obtain ⟨xs, hx⟩ : ∃ xs, p.1 = .tup xs := by
          cases hpd : p.1 with
          | tup xs => exact ⟨xs, rfl⟩
          | _ => rw [hpd] at hs; cases hs
        rw [hx] at r
        exact r.tupD.1
      subst hf
      refine ⟨p.2, ow1, Tm Rs [], p.1, env', po.es, r, hs, fun σ' ow' es' hsub hout hlen => kp σ' ow' H1 ⟨es', fun a q => ?_, fun a o e q => po.fr a o e fun _ => q rfl, po.trk, by simp⟩ fun hpr => hout 0 ?_⟩
      · rcases q with q | q
        · exact po.new a (.inl (hsub a q))
        · cases q
      · rw [hpr] at hp
        simpa using hp
    · exact kp.elim
  · cases ht'
theorem fold_no {x y : Expr} (h : (!(foldedForSure 8 x && foldedForSure 8 y) && !(constantsAlone 8 x && constantsAlone 8 y)) = true) : [x, y].all (foldedForSure 8) = false ∧ [x, y].all (constantsAlone 8) = false := by
  simp only [Bool.and_eq_true, Bool.not_eq_true'] at h
  simp only [List.all_cons, List.all_nil, Bool.and_true]
  exact h
theorem s_ret (g : Good c G W X) {x : Expr} {e : E} {p : Pos} (he : okE c x e = true) : PS X (.Return (some x) p) (tS G W pr (.ret e)) := by
  have gen : (∀ env, evS G.T G.call (.ret e) env = (evX G.T G.call false e env).fl fun p => .rt p.1 p.2) → PS X (.Return (some x) p) (tS G W pr (.ret e)) := fun hh => PSimp (ps_ret (sndE e he g).pe) fun D σ H ⟨env, ow, Rs, es, k⟩ => by
    rw [hh] at k
    exact ⟨env, ow, Rs, es, k.fl.imp fun p _ kp v H1 ow1 os1 po r => kp v σ ow1 os1 H1 (po.le fun _ => rfl) r Sm.refl⟩
  cases e with
  | var i =>
    unfold okE at he
    split at he
    · rename_i n hn
      obtain ⟨q, rfl⟩ := vName_eq hn
      obtain ⟨h1, h2, h3, h4⟩ := var_vis g he
      refine PSimp (ps_ret (pe_var h1 h2 h3 h4)) fun D σ H ⟨env, ow, Rs, es, k⟩ => ?_
      rw [evS] at k
      split at k
      · rename_i d hd
        obtain ⟨hl, hget⟩ := getV_lt hd
        obtain ⟨v, hv, r⟩ := es.rep i d hget
        refine ⟨v, hv, k v σ (setO ow i []) (ow i) H ⟨?_, fun a q => ?_, fun a o e _ => e, fun a q => q, es.nd i⟩ (r.avoid fun a q => .inl ?_) Sm.refl⟩
        · have sub : ∀ a, Avd (setO ow i []) (Tm Rs (ow i)) a → Avd ow Rs a := fun a q => by
            rcases q with q | q | q
            · rcases Ow_setO.mp q with z | ⟨j, _, z⟩
              · cases z
              · exact .inl ⟨j, z⟩
            · exact .inr q
            · exact .inl ⟨i, q⟩
          refine ⟨by unfold delV; simp [es.len], fun j d' e' => ?_, fun j h => ?_, fun j => ?_, fun j l a h1 h2 => ?_, fun a q w => ?_, fun a q => ?_⟩
          · unfold delV at e'
            by_cases hj : j = i
            · subst hj
              rw [List.getElem?_set_self hl] at e'
              cases e'
            · rw [List.getElem?_set_ne (Ne.symm hj)] at e'
              obtain ⟨w, hw, rw'⟩ := es.rep j d' e'
              exact ⟨w, hw, by rw [setO_ne hj]; exact rw'.avoid fun a q => .inl (sub a q)⟩
          · by_cases hj : j = i
            · subst hj; exact setO_same
            · rw [setO_ne hj]
              refine es.nil j fun d e => h d ?_
              unfold delV
              rw [List.getElem?_set_ne (Ne.symm hj)]; exact e
          · by_cases hj : j = i
            · subst hj; rw [setO_same]; exact List.nodup_nil
            · rw [setO_ne hj]; exact es.nd j
          · by_cases hj : j = i
            · subst hj; rw [setO_same] at h1; cases h1
            · by_cases hl' : l = i
              · subst hl'; rw [setO_same] at h2; cases h2
              · rw [setO_ne hj] at h1
                rw [setO_ne hl'] at h2
                exact es.dj j l a h1 h2
          · rcases Ow_setO.mp w with z | ⟨j, hj, z⟩
            · cases z
            · rcases q with q | q
              · exact es.rs a q ⟨j, z⟩
              · exact hj (es.dj j i a z q)
          · rcases q with q | q
            · exact es.rt a q
            · obtain ⟨o, e, _⟩ := es.ow_some ⟨i, q⟩
              rw [e]; simp
        · rcases q with q | q
          · rcases Ow_setO.mp q with z | ⟨j, _, z⟩
            · cases z
            · exact .inl ⟨j, z⟩
          · exact .inl ⟨i, q⟩
        · rcases q with q | q | q
          · rcases Ow_setO.mp q with z | ⟨j, _, z⟩
            · cases z
            · exact .inl ⟨j, z⟩
          · exact .inr q
          · exact .inl ⟨i, q⟩
      · exact k.elim
    · cases he
  | _ => exact gen fun env => by rw [evS]; intro i z; cases z
theorem s_retN {p : Pos} : PS X (.Return none p) (tS G W pr .retN) := PSimp ps_retN fun D σ H ⟨env, ow, Rs, es, k⟩ => by
  rw [evS] at k
  exact k _ σ ow [] H (Po.refl es) RP.mkNon Sm.refl
theorem s_pass {p : Pos} : PS X (.Pass p) (tS G W pr .pass) := PSimp ps_pass fun D σ H ⟨env, ow, Rs, es, k⟩ => by
  rw [evS] at k
  exact k σ ow H (Po.refl es) Sm.refl
theorem s_brk {p : Pos} : PS X (.Break p) (tS G W pr .brk) := PSimp ps_break fun D σ H ⟨env, ow, Rs, es, k⟩ => by
  rw [evS] at k
  exact k σ ow H (Po.refl es) Sm.refl
theorem s_cnt {p : Pos} : PS X (.Continue p) (tS G W pr .cnt) := PSimp ps_continue fun D σ H ⟨env, ow, Rs, es, k⟩ => by
  rw [evS] at k
  exact k σ ow H (Po.refl es) Sm.refl
theorem s_ex (g : Good c G W X) {x : Expr} {e : E} {p : Pos} (he : okE c x e = true) (hc : isComp x = false) : PS X (.Expr x p) (tS G W pr (.ex e)) := by
  refine PSimp (ps_expr (sndE e he g).pe (by cases x <;> first | rfl | (simp [isComp] at hc))) fun D σ H ⟨env, ow, Rs, es, k⟩ => ?_
  rw [evS] at k
  exact ⟨env, ow, Rs, es, k.fl.imp fun p _ kp v H1 ow1 os1 po r => kp σ ow1 H1 (po.nil.le fun _ => rfl) Sm.refl⟩
theorem s_if (g : Good c G W X) {x : Expr} {as bs : List Stmt} {k : E} {a b : B} {p : Pos} (hk : okE c x k = true) (ha : PSs X as (tB G W pr a)) (hb : PSs X bs (tB G W pr b)) : PS X (.If x as bs p) (tS G W pr (.ifS k a b)) := by
  refine PSimp (ps_if (sndE k hk g).pt ha hb) fun D σ H ⟨env, ow, Rs, es, q⟩ => ?_
  rw [evS] at q
  refine ⟨env, ow, Rs, es, q.fl.imp fun p _ kp H1 ow1 po => ?_⟩
  obtain ⟨bb, e⟩ := p
  cases bb with
  | true => exact ⟨e, ow1, Tm Rs [], po.es, kp.shift po Sm.refl⟩
  | false => exact ⟨e, ow1, Tm Rs [], po.es, kp.shift po Sm.refl⟩

/-! ### x op= e -/
def rIntI (o : Bop) : TIp := fun x y H Q => ∃ i j r, x = .int i ∧ y = .int j ∧ intB o i j = some r ∧ Q (.int r) H
theorem ip_int (o : Bop) : PIp X (bopO o) (rIntI o) := by
  intro pins s σ H x y v u Q I rx ry h
  obtain ⟨i, j, r, rfl, rfl, e, q⟩ := h
  unfold intB at e
  split at e
  · cases e; exact iop_add pins s σ H _ _ v u Q I rx ry ⟨_, _, rfl, rfl, q⟩
  · cases e; exact iop_sub pins s σ H _ _ v u Q I rx ry ⟨_, _, rfl, rfl, q⟩
  · split at e <;> cases e
    rename_i hb
    exact iop_mul pins s σ H _ _ v u Q I rx ry ⟨_, _, rfl, rfl, (show CMul _ _ from of_decide_eq_true (p := (-(2 ^ 64) < _ ∧ _ < 2 ^ 64) ∨ (-(2 ^ 64) < _ ∧ _ < 2 ^ 64)) hb), q⟩
  · split at e <;> cases e
    rename_i hb
    simp only [Bool.and_eq_true, decide_eq_true_eq] at hb
    exact iop_fdiv pins s σ H _ _ v u Q I rx ry ⟨_, _, rfl, rfl, hb, q⟩
  · split at e <;> cases e
    rename_i hb
    exact iop_mod pins s σ H _ _ v u Q I rx ry ⟨_, _, rfl, rfl, of_decide_eq_true hb, q⟩
  · cases e
theorem s_aug (g : Good c G W X) {t x : Expr} {n : Str} {i : Nat} {o : Bop} {e : E} {p : Pos} (hn : vName t = some n) (ht : c.tgt n i = true) (hv : c.var n i = true) (hp : (!pr || decide (i ≠ 0)) = true) (he : okE c x e = true) : PS X (.AugAssign t (bopO o) x p) (tS G W pr (.aug i o e)) := by
  obtain ⟨tp, rfl⟩ := vName_eq hn
  obtain ⟨h1, h2, h3⟩ := tgt_ok g ht
  refine PSimp (ps_aug g.nd h1 h2 (sndE e he g).pe (ip_int o) h3) fun D σ H ⟨env, ow, Rs, es, k⟩ => ?_
  rw [evS] at k
  split at k
  · rename_i a ha
    obtain ⟨v, hv', r0⟩ := env_get es ha
    refine ⟨v, hv', env, ow, Rs, es, k.fl.imp fun p _ kp w H1 ow1 os1 po r => ?_⟩
    split at kp
    · rename_i b hb
      rw [hb] at r
      split at kp
      · rename_i rr hr
        obtain ⟨ow', po'⟩ := put_slot (i := i) (d := .int rr) (v := .int rr) es po.nil RP.mkInt
        exact ⟨a, b, rr, r0.int, r.int, hr, kp _ ow' H1 po' (sm_set hp)⟩
      · exact kp.elim
    · exact kp.elim
  · exact k.elim

/-! ### o[i] = e, o[i] op= e -/
theorem upd_peek : ∀ {o : E} {env env' : VE} {f : D → Option D}, updP o env f = some env' → ∃ d d', peek o env = some d ∧ f d = some d'
  | .var i, env, env', f, h => by
    unfold updP at h
    obtain ⟨d0, h0, h⟩ := Option.bind_eq_some_iff.mp h
    obtain ⟨d1, h1, rfl⟩ := Option.map_eq_some_iff.mp h
    exact ⟨d0, d1, by unfold peek; exact h0, h1⟩
  | .sub o k, env, env', f, h => by
    unfold updP at h
    obtain ⟨n, hn, h⟩ := Option.bind_eq_some_iff.mp h
    obtain ⟨d, d', hd, hf⟩ := upd_peek h
    split at hf
    · split at hf
      · rename_i hr
        obtain ⟨x, hx, hf⟩ := Option.bind_eq_some_iff.mp hf
        obtain ⟨y, hy, _⟩ := Option.map_eq_some_iff.mp hf
        refine ⟨x, y, ?_, hy⟩
        unfold peek
        rw [hd, hn]
        show ixD _ n = some x
        unfold ixD atI ixN
        rw [if_pos hr.1, if_pos hr.2]
        exact hx
      · cases hf
    · cases hf
theorem ixN_of {n : Nat} {k : Int} (h : 0 ≤ k ∧ k < n) : ixN n k = some k.toNat := by
  unfold ixN
  rw [if_pos h.1, if_pos h.2]
theorem aug_sub {z : Expr} (hs : isSlc z = false) (ov iv new : Value) : augStore z ov iv new = (do holding [new, ov, iv] (setItem ov iv new); release [new, ov, iv] []; pure .next) := by
  cases z <;> first | rfl | (simp [isSlc] at hs)
theorem asg_sub {y z : Expr} {p : Pos} (hs : isSlc z = false) (v : Value) : assign (.Subscript y z p) X.env v = (do
      let ov ← holding [v] (eval y X.env)
      let iv ← holding [v, ov] (eval z X.env)
      standAt p
      holding [v, ov, iv] (setItem ov iv v)
      release [v, ov, iv] []) := by
  cases z <;> first | rfl | (simp [isSlc] at hs)
theorem RPs.setV {R : Rt} {H : Hp} {A : Av} : ∀ {ds : List VS.D} {vs : List V} {os : List Addr} {j : Nat} {d0 d : VS.D} {v : V} {on : List Addr}, RPs R H A ds vs os → ds[j]? = some d0 → RP R H A d v on → ∃ o1 oj o2, os = o1 ++ (oj ++ o2) ∧ RPs R H A (ds.set j d) (vs.set j v) (o1 ++ (on ++ o2))
  | [], _, _, _, _, _, _, _, _, e, _ => by simp at e
  | x :: ds, vs, os, j, d0, d, v, on, h, e, r => by
    unfold RPs at h
    obtain ⟨w, vs', o1, o2, rfl, rfl, h1, h2⟩ := h
    cases j with
    | zero =>
      refine ⟨[], o1, o2, rfl, ?_⟩
      rw [List.set_cons_zero, List.set_cons_zero, List.nil_append]
      exact RPs.cons r h2
    | succ j =>
      obtain ⟨p1, oj, p2, rfl, k⟩ := RPs.setV (j := j) h2 (by simpa using e) r
      refine ⟨o1 ++ p1, oj, p2, by simp, ?_⟩
      rw [List.set_cons_succ, List.set_cons_succ, List.append_assoc]
      exact RPs.cons h1 k
theorem s_asgS (g : Good c G W X) {y z x : Expr} {o i e : E} {p tp : Pos} (hs : isSlc z = false) (ho : okE c y o = true) (hi : okE c z i = true) (he : okE c x e = true) (hc : isComp x = false) : PS X (.Assign [.Subscript y z tp] x p) (tS G W pr (.asgS o i e)) := by
  have so := sndE o ho g
  have si := sndE i hi g
  refine PSimp (ps_asg (sndE e he g).pe (pg_sub so.pp si.ps set_list (asg_sub hs)) (sole_no hc) rfl rfl) fun D σ H ⟨env, ow, Rs, es, k⟩ => ?_
  rw [evS] at k
  refine ⟨env, ow, Rs, es, k.fl.imp fun p _ kp v H1 ow1 os1 po r => ?_⟩
  split at kp
  · rename_i n hn
    split at kp
    · rename_i env' hu
      obtain ⟨d, d', hd, hf⟩ := upd_peek hu
      split at hf
      · rename_i xs
        split at hf
        · rename_i hr
          cases hf
          refine ⟨p.2, ow1, Tm Rs os1, _, po.es, hd, fun u os ru _ pt => ⟨p.2, ow1, Tm Rs os1, n, po.es, hn, ?_⟩⟩
          obtain ⟨a, vs, osx, rfl, ha, rr, nd, ap, put⟩ := upd_put (os2 := []) es po hd pt hu (if_pos hr)
          have hlt : n.toNat < xs.length := by omega
          obtain ⟨o1, oj, o2, rfl, rnew⟩ := rr.setV (List.getElem?_eq_getElem hlt) r
          obtain ⟨ow', po'⟩ := put _ _ rnew (fun b hb => by
            rcases List.mem_append.mp hb with z | z
            · exact .inl (by simp [z])
            · rcases List.mem_append.mp z with z | z
              · exact .inr z
              · exact .inl (by simp [z])) (by
            rw [List.nodup_append] at nd ⊢
            obtain ⟨n1, n2, n3⟩ := nd
            rw [List.nodup_append] at n2 ⊢
            refine ⟨n1, ⟨po.nd, n2.2.1, fun x hx y hy e => ap y (by simp [hy]) (e ▸ hx)⟩, fun x hx y hy e => ?_⟩
            rcases List.mem_append.mp hy with z | z
            · exact ap x (by simp [hx]) (e ▸ z)
            · exact n3 x hx y (by simp [z]) e) (by simp) (by simp)
          exact ⟨a, vs, n, n.toNat, rfl, rfl, ha, by rw [rr.length]; exact ixN_of hr, kp σ ow' _ po' Sm.refl⟩
        · cases hf
      · cases hf
    · exact kp.elim
  · exact kp.elim
def rGetL : V → V → Hp → VK → Prop := fun x y H Q => ∃ p xs k v, x = .ref p ∧ y = .int k ∧ H p = some (.lst xs) ∧ 0 ≤ k ∧ xs[k.toNat]? = some v ∧ Q v H
theorem get_L : PGet X rGetL := by
  intro pins s σ H o i ov iv Q I ro ri h
  obtain ⟨p, xs, k, v, rfl, rfl, hp, h0, hv, q⟩ := h
  cases ro
  obtain ⟨t, rfl⟩ := ri
  obtain ⟨its, r, pl, hz⟩ := I.list (SqL.of hp)
  obtain ⟨w, ew, rw'⟩ := r.get hv
  have hn := line63
  have hlt : k.toNat < xs.length := by
    rcases Nat.lt_or_ge k.toNat xs.length with z | z
    · exact z
    · rw [List.getElem?_eq_none z] at hv; cases hv
  exact wpAny_getItem_list pl.isList h0 (by omega) (by simpa using ew) ⟨v, H, I, rw', q⟩
theorem s_augS (g : Good c G W X) {y z x : Expr} {o i e : E} {b : Bop} {p tp : Pos} (hs : isSlc z = false) (ho : okE c y o = true) (hi : okE c z i = true) (he : okE c x e = true) : PS X (.AugAssign (.Subscript y z tp) (bopO b) x p) (tS G W pr (.augS o i b e)) := by
  have so := sndE o ho g
  have si := sndE i hi g
  refine PSimp (ps_augS so.pp si.ps get_L (sndE e he g).ps (ip_int b) set_list (aug_sub hs)) fun D σ H ⟨env, ow, Rs, es, k⟩ => ?_
  rw [evS] at k
  split at k
  · rename_i a m n hp he' hn
    split at k
    · rename_i r hr
      split at k
      · rename_i env' hu
        obtain ⟨d, d', hd, hf⟩ := upd_peek hu
        split at hf
        · rename_i xs
          split at hf
          · rename_i hrg
            cases hf
            have hpx : xs[n.toNat]? = some (.int a) := by
              unfold peek at hp
              rw [hd, hn] at hp
              have hp : ixD xs n = some (.int a) := hp
              unfold ixD atI at hp
              rw [ixN_of hrg] at hp
              exact hp
            refine ⟨env, ow, Rs, _, es, hd, fun u os ru _ pt => ⟨env, ow, Rs, n, es, hn, ?_⟩⟩
            obtain ⟨ad, vs, osx, rfl, ha, rr, nd, ap, put⟩ := upd_put (os2 := []) (mu := true) es (Po.refl es) hd pt hu (if_pos hrg)
            obtain ⟨w, o0, hw, rw', _⟩ := rr.get hpx
            have ew := rw'.int
            subst ew
            obtain ⟨o1, oj, o2, rfl, rnew⟩ := rr.setV (d := .int r) (v := .int r) (on := []) hpx RP.mkInt
            obtain ⟨ow', po'⟩ := put _ _ rnew (fun b hb => by
              rcases List.mem_append.mp hb with z | z
              · exact .inl (by simp [z])
              · exact .inl (by simp at z; simp [z])) (by
              rw [List.nodup_append] at nd ⊢
              obtain ⟨n1, n2, n3⟩ := nd
              rw [List.nodup_append] at n2
              exact ⟨n1, by simpa using n2.2.1, fun x hx y hy e => n3 x hx y (by simp at hy; simp [hy]) e⟩) (by simp) (by simp)
            refine ⟨ad, vs, n, .int a, rfl, rfl, ha, hrg.1, hw, env, ow, Rs, m, es, he', a, m, r, rfl, rfl, hr, ad, vs, n, n.toNat, rfl, rfl, ha, by rw [rr.length]; exact ixN_of hrg, k σ ow' _ po' Sm.refl⟩
          · cases hf
        · cases hf
      · exact k.elim
    · exact k.elim
  · exact k.elim
end
end VS
set_option Elab.async false
set_option linter.all false
set_option maxRecDepth 100000
set_option maxHeartbeats 2000000
/-! VTa: loops. -/
namespace VS
open PySem PySem.Spec PyProof.Rows L2
section
variable {G : Wd} {W : WX} {X : Cx} {c : Ck} {pr : Bool}
/-- a loop's turn -/
def turnF (r : Fl) (k : VE → Fl) : Fl := match r with
  | .nx e => k e
  | .ct e => k e
  | .bk e => .nx e
  | r => r
theorem KS.turn {R : Rt} {mu : Bool} {Rs : Av} {ow ow1 : Own} {H H1 : Hp} {σ σ1 : L2.St} {env1 : VE} {D : Ends} {r : Fl} {f : VE → Fl} {N : L2.St → Hp → Prop} (k : KS R W pr Rs ow H σ (turnF r f) D) (po : Po R Rs mu ow H env1 σ1 ow1 [] H1) (sm : Sm pr σ σ1)
    (hN : ∀ e σ' ow' H', KS R W pr Rs ow H σ (f e) D → Po R Rs true ow H e σ' ow' [] H' → Sm pr σ σ' → N σ' H') : KS R W pr (Tm Rs []) ow1 H1 σ1 r { D with nx := N, ct := N, bk := D.nx } := by
  have seq : ∀ {env' : VE} {σ' : L2.St} {ow' : Own} {os : List Addr} {H' : Hp}, Po R (Tm Rs []) true ow1 H1 env' σ' ow' os H' → Po R Rs true ow H env' σ' ow' os H' := fun p => (Po.seqS po p (fun a h => .inr h) p.nd).le fun _ => rfl
  cases r with
  | nx e => exact fun σ' ow' H' p s => hN e σ' ow' H' k (seq p) (sm.trans s)
  | ct e => exact fun σ' ow' H' p s => hN e σ' ow' H' k (seq p) (sm.trans s)
  | bk e => exact fun σ' ow' H' p s => k σ' ow' H' (seq p) (sm.trans s)
  | rt d e => exact fun v σ' ow' os H' p r s => k v σ' ow' os H' (seq p) (r.avoid fun a q => .inl (lessT q)) (sm.trans s)
  | ex c xs e => exact fun σ' ow' H' dd p x s => k σ' ow' H' dd (seq p) (x.less fun a q => q.imp id fun q => .inl q) (sm.trans s)
  | no => exact k
theorem whL_eq (tt : VE → Rr (Bool × VE)) (body : VE → Fl) (n : Nat) (env : VE) : whL tt body (n + 1) env = (tt env).fl fun p => if p.1 then turnF (body p.2) (fun e => whL tt body n e) else .nx p.2 := by
  rw [whL]
  cases tt env with
  | ok p =>
    obtain ⟨b, e⟩ := p
    cases b with
    | false => rfl
    | true =>
      show (match body e with | .nx e2 => whL tt body n e2 | .ct e2 => whL tt body n e2 | .bk e2 => Fl.nx e2 | r => r) = turnF (body e) _
      cases body e <;> rfl
  | ex _ _ _ => rfl
  | no => rfl
theorem s_while (hp : PassesOwn (model X.prog X.w) X.A X.env X.xe) (g : Good c G W X) {x : Expr} {bs : List Stmt} {k : E} {b : B} {p : Pos} (hk : okE c x k = true) (hb : PSs X bs (tB G W pr b)) : PS X (.While x bs [] p) (tS G W pr (.whS k b)) := by
  refine PSimp (ps_while hp (sndE k hk g).pt hb) fun D σ H ⟨env, ow, Rs, es, q⟩ => ?_
  rw [evS] at q
  refine ⟨fun n σ' H' => ∃ env' ow' Rs', ES G.R H' Rs' env' σ' ow' ∧ KS G.R W pr Rs' ow' H' σ' (whL (fun v => evT G.T G.call k v) (fun v => evBl G.T G.call b v) n env') D, ⟨whF, env, ow, Rs, es, q⟩, ?_⟩
  rintro m σ1 H1 ⟨env1, ow1, Rs1, es1, q1⟩
  cases m with
  | zero => rw [whL] at q1; exact q1.elim
  | succ n =>
    rw [whL_eq] at q1
    refine ⟨env1, ow1, Rs1, es1, q1.fl.imp fun p _ kp H2 ow2 po => ?_⟩
    obtain ⟨bb, e⟩ := p
    cases bb with
    | false => exact kp σ1 ow2 H2 (po.le fun _ => rfl) Sm.refl
    | true =>
      refine ⟨fun σ' H' => ∃ env' ow' Rs', ES G.R H' Rs' env' σ' ow' ∧ KS G.R W pr Rs' ow' H' σ' (whL (fun v => evT G.T G.call k v) (fun v => evBl G.T G.call b v) n env') D, fun σ' H' z => ⟨n, Nat.lt_succ_self n, z⟩, e, ow2, Tm Rs1 [], po.es, ?_⟩
      exact KS.turn kp po Sm.refl fun e' σ' ow' H' kk p' s' => ⟨e', ow', Tm Rs1 [], p'.es, kk.shift p' s'⟩
theorem forL_eq (ts : List Nat) (tu : Bool) (body : VE → Fl) (x : D) (xs : List D) (env : VE) : forL ts tu body (x :: xs) env = match setT env ts tu x with
    | none => .no
    | some env1 => turnF (body env1) (fun e => forL ts tu body xs e) := by
  rw [forL]
  cases setT env ts tu x with
  | none => rfl
  | some env1 =>
    show (match body env1 with | .nx e2 => forL ts tu body xs e2 | .ct e2 => forL ts tu body xs e2 | .bk e2 => Fl.nx e2 | r => r) = turnF (body env1) _
    cases body env1 <;> rfl
theorem s_for (hp : PassesOwn (model X.prog X.w) X.A X.env X.xe) (g : Good c G W X) (hot : c.hot = false) {tg iter : Expr} {bs : List Stmt} {ts : List Nat} {tu : Bool} {it : VS.I} {b : B} {p : Pos} (hi : okI c tg iter it = true) (ht : okT c tg ts tu = true) (h0 : (!pr || decide (0 ∉ ts)) = true) (hb : PSs X bs (tB G W pr b)) :
    PS X (.For tg iter bs [] p) (tS G W pr (.forS ts tu it b)) := by
  obtain ⟨c1, c2, c3, c4, c5⟩ := g.calm hot
  obtain ⟨h1, h2⟩ := sndI it hi hot g
  refine PSimp (ps_for hp c1 h1 (pg_T g c1 ht) hb (set_ok h2 X.env)) fun D σ H ⟨env, ow, Rs, es, q⟩ => ?_
  rw [evS] at q
  refine ⟨env, ow, Rs, es, q.fl.imp fun p _ kp H1 ow1 J po1 src => ?_⟩
  obtain ⟨Gd, Y, walk, hsrc⟩ := src
  have es1 := po1.es
  have kp := kp.shift po1 Sm.refl
  have hA : ∀ a, (true = true ∧ Ow ow1 a) → Avd ow1 Rs a := fun a q => .inl q.2
  have hB : ∀ {envi : VE} {σi : L2.St} {owi : Own} {Hc : Hp}, Po G.R (Tm Rs []) true ow1 H1 envi σi owi [] Hc → ∀ a, Avd owi (Tm Rs []) a → Avd ow1 Rs a ∨ H1 a = none := fun {envi σi owi Hc} po a q => by
    rcases q with q | q
    · rcases po.new a (.inl q) with z | z
      · exact .inl (.inl z)
      · exact .inr z
    · exact .inl (.inr (Tm.nil.mp q))
  refine for_it walk (fun i σi Hi => ∃ envi owi, Po G.R (Tm Rs []) true ow1 H1 envi σi owi [] Hi ∧ Sm pr σ σi ∧ KS G.R W pr (Tm Rs []) ow1 H1 σ (forL ts tu (fun v => evBl G.T G.call b v) (p.1.drop i) envi) D) ⟨p.2, ow1, Po.refl es1, Sm.refl, kp⟩ (fun i σi Hi _ ⟨envi, owi, po, _⟩ => (hsrc _ Hi (po.chg es1) hA).1) ?_ ?_
  · rintro i x σi Hi H' hlt ⟨envi, owi, po, sm, kk⟩ y
    obtain ⟨gr, hrp⟩ := (hsrc _ Hi (po.chg es1) hA).2 i x H' _ (List.getElem?_eq_getElem hlt) y
    rw [List.drop_eq_getElem_cons hlt, forL_eq] at kk
    cases hset : setT envi ts tu p.1[i] with
    | none => rw [hset] at kk; exact kk.elim
    | some env1 =>
      rw [hset] at kk
      have esi : ES G.R H' (Tm Rs []) envi σi owi := (po.es.less fun a q => Tm.nil.mpr q).grow gr (fun a q => .inl q) fun a z => by
        have := po.es.rt a (Tm.nil.mpr z)
        cases q : Hi a with
        | none => exact absurd q this
        | some o => rw [gr a o q]; simp
      refine ⟨envi, owi, Tm Rs [], _, env1, esi, hrp _ (hB po), hset, fun σ2 ow2 es2 hsub hout hlen => ?_⟩
      have sm2 : Sm pr σi σ2 := fun hpr => hout 0 (by rw [hpr] at h0; simpa using h0)
      have pot : Po G.R (Tm Rs []) true ow1 H1 env1 σ2 ow2 [] H' := by
        refine ⟨es2.less fun a q => Tm.nil.mp q, fun a q => ?_, fun a o e q => gr a o (po.fr a o e q), fun a q => ?_, by simp⟩
        · rcases q with q | q
          · exact po.new a (.inl (hsub a q))
          · cases q
        · have := po.trk a q
          cases q' : Hi a with
          | none => exact absurd q' this
          | some o => rw [gr a o q']; simp
      refine ⟨env1, ow2, Tm (Tm Rs []) [], pot.es, ?_⟩
      exact KS.turn kk pot (sm.trans sm2) fun e' σ' ow' H'' kk' p' s' => ⟨e', ow', p', s', kk'⟩
  · rintro σn Hn ⟨envn, own, po, sm, kk⟩
    rw [List.drop_length, forL] at kk
    exact kk σn own Hn po sm
end
end VS
set_option Elab.async false
set_option linter.all false
set_option maxRecDepth 100000
set_option maxHeartbeats 2000000
/-! VTb: two names at once; attributes stored. -/
namespace VS
open PySem PySem.Spec PyProof.Rows L2
section
variable {G : Wd} {W : WX} {X : Cx} {c : Ck} {pr : Bool}
theorem fnK_ok {sc : Scope} (h : fnK sc = true) : sc.kind = .function := by
  unfold fnK at h
  split at h
  · assumption
  · cases h
theorem swapped2 {n m : Str} {px py pt pt2 : Pos} {kt k2} {x y : Expr} (hk : X.env.scope.kind = .function) (hn : X.env.scope.names.lookup n = some .local) (hm : X.env.scope.names.lookup m = some .local) (hne : n ≠ m) (hl : py.line = px.line)
    (s1 : isStar x = false) (s2 : isStar y = false) (hf : [x, y].all (foldedForSure 8) = false) (hc : [x, y].all (constantsAlone 8) = false) : swappedStores [.Tuple [.Name n px, .Name m py] kt pt] (.Tuple [x, y] k2 pt2) X.env = pure (some [n, m]) := by
  have hb : X.env.blockKind = .function := by unfold Env.blockKind; rw [hk]; rfl
  have kn : X.env.kindOf n = some .local := hn
  have km : X.env.kindOf m = some .local := hm
  have st : ([x, y].any fun | .Starred .. => true | _ => false) = false := by
    cases x <;> first | (simp [isStar] at s1; done) | (cases y <;> first | (simp [isStar] at s2; done) | rfl)
  have ed : ([n, m] : List Str).eraseDups.length = 2 := by
    have : (m == n) = false := beq_eq_false_iff_ne.mpr (Ne.symm hne)
    simp [List.eraseDups_cons, this]
  unfold swappedStores
  simp only [List.length_cons, List.length_nil, hb, st, hf, hc]
  simp [kn, km, hl, Expr.pos, ed]
  intro hh
  exfalso
  rcases hh with hh | hh
  · cases x <;> first | (simp [isStar] at s1; done) | (cases hh; done)
  · cases y <;> first | (simp [isStar] at s2; done) | (cases hh; done)
theorem put_part {R : Rt} {mu : Bool} {Rs : Av} {ow ow1 : Own} {H H1 : Hp} {σ0 σ : L2.St} {env env1 : VE} {os1 os2 : List Addr} {d : VS.D} {v : V} {i : Nat} (es : ES R H Rs env σ0 ow) (po : Po R Rs mu ow H env1 σ ow1 (os1 ++ os2) H1) (r : RP R H1 (Avd ow1 (Tm Rs (os1 ++ os2))) d v os1) :
    ∃ ow', Po R Rs true ow H (setV env1 i d) (σ.set i (some v)) ow' os2 H1 ∧ ∀ a, Avd ow' (Tm Rs os2) a → Avd ow1 (Tm Rs (os1 ++ os2)) a := by
  have nd := List.nodup_append.mp po.nd
  by_cases hi : i < env1.length
  · have inc : ∀ a, Avd (setO ow1 i os1) (Tm Rs os2) a → Avd ow1 (Tm Rs (os1 ++ os2)) a := fun a q => by
      rcases q with q | q | q
      · rcases Ow_setO.mp q with z | ⟨j, _, z⟩
        · exact .inr (.inr (List.mem_append_left _ z))
        · exact .inl ⟨j, z⟩
      · exact .inr (.inl q)
      · exact .inr (.inr (List.mem_append_right _ q))
    have p := ES.put (S := fun _ => False) (Rs' := Tm Rs os2) (os := os1) po.es hi ⟨fun _ _ h _ => h, fun _ _ h => h.elim⟩ (fun _ z => z.elim) (fun _ z => z) (fun a z => by
        rcases z with z | z
        · exact ⟨.inl z, fun y => po.apartS es a (List.mem_append_left _ y) (.inr z)⟩
        · exact ⟨.inr (List.mem_append_right _ z), fun y => nd.2.2 a y a z rfl⟩)
      (fun a ha => .inr (.inl (.inr (List.mem_append_left _ ha)))) nd.1 (r.avoid fun a q => .inl (inc a q))
    refine ⟨_, ⟨p, fun a q => ?_, fun a o e q => po.fr a o e fun _ => q rfl, po.trk, nd.2.1⟩, inc⟩
    rcases q with q | q
    · rcases Ow_setO.mp q with z | ⟨j, _, z⟩
      · exact po.new a (.inr (List.mem_append_left _ z))
      · exact po.new a (.inl ⟨j, z⟩)
    · exact po.new a (.inr (List.mem_append_right _ q))
  · have h1 : setV env1 i d = env1 := by unfold setV; exact List.set_eq_of_length_le (by omega)
    have h2 : σ.set i (some v) = σ := List.set_eq_of_length_le (by rw [← po.es.len]; omega)
    rw [h1, h2]
    exact ⟨ow1, (po.drop (fun a h => List.mem_append_right _ h) nd.2.1).le fun _ => rfl, fun a q => q.imp id fun q => q.imp id fun q => List.mem_append_right _ q⟩
theorem s_par (g : Good c G W X) (hot : c.hot = false) {x y : Expr} {n m : Str} {i j : Nat} {a b : E} {p px py pt pt2 : Pos} {kt k2 : Nat} (hk : fnK c.sc = true) (hi : c.tgt n i = true) (hj : c.tgt m j = true) (hne : n ≠ m) (hp : (!pr || (decide (i ≠ 0) && decide (j ≠ 0))) = true) (ln : isLocal c.sc n = true) (lm : isLocal c.sc m = true) (hl : py.line = px.line)
    (s1 : isStar x = false) (s2 : isStar y = false) (hf : (!(foldedForSure 8 x && foldedForSure 8 y) && !(constantsAlone 8 x && constantsAlone 8 y)) = true) (ha : okE c x a = true) (hb : okE c y b = true) : PS X (.Assign [.Tuple [.Name n px, .Name m py] kt pt] (.Tuple [x, y] k2 pt2) p) (tS G W pr (.par i j a b)) := by
  obtain ⟨c1, c2, c3, c4, c5⟩ := g.calm hot
  obtain ⟨i1, i2, i3⟩ := tgt_ok g hi
  obtain ⟨j1, j2, j3⟩ := tgt_ok g hj
  have loc : ∀ {z : Str}, isLocal c.sc z = true → X.env.scope.names.lookup z = some .local := fun {z} h => by
    rw [g.sc]
    unfold isLocal at h
    split at h
    · assumption
    · cases h
  obtain ⟨f1, f2⟩ := fold_no hf
  have hij : i ≠ j := fun e => by
    subst e
    rw [i1] at j1
    exact hne (Option.some.inj j1)
  have hw := swapped2 (X := X) (px := px) (py := py) (pt := pt) (pt2 := pt2) (kt := kt) (k2 := k2) (by rw [g.sc]; exact fnK_ok hk) (loc ln) (loc lm) hne hl s1 s2 f1 f2
  refine PSimp (ps_par c1 g.nd i1 j1 hij (loc ln) (loc lm) (pa_cons (sndE a ha g).pe (pa_cons (sndE b hb g).pe pa_nil (star_cons s2)) (star_cons s1)) hw rfl) fun D σ H ⟨env, ow, Rs, es, k⟩ => ?_
  rw [evS] at k
  refine ⟨env, ow, Rs, es, (k.fl (mu := muE G.T a || muE G.T b)).le ma |>.imp fun p _ kp v H1 ow1 os1 po1 r1 => ⟨p.2, ow1, Tm Rs os1, po1.es, ((kp.fl (mu := muE G.T a || muE G.T b)).shift po1 ma mb).imp fun q _ kq w H2 ow2 os2 po2 r2 => ?_⟩⟩
  rw [if_neg hij] at kq
  have r1' := po2.keep po1.es r1 fun a ha => .inr ha
  have po := Po.seq (os := os1 ++ os2) po1 po2 (fun a h => List.mem_append.mp h) (List.nodup_append.mpr ⟨po1.nd, po2.nd, fun a ha b hb e => po2.apart po1.es b hb (.inr (e ▸ .inr ha))⟩)
  have lo : ∀ a, Avd ow2 (Tm Rs (os1 ++ os2)) a → Avd ow2 (Tm (Tm Rs os1) os2) a := fun a q => by
    rcases q with q | q | q
    · exact .inl q
    · exact .inr (.inl (.inl q))
    · rcases List.mem_append.mp q with z | z
      · exact .inr (.inl (.inr z))
      · exact .inr (.inr z)
  obtain ⟨ow3, po3, inc⟩ := put_part (i := i) es po (r1'.avoid fun a q => .inl (lo a q))
  have po3' : Po G.R Rs true ow H (setV q.2 i p.1) (σ.set i (some v)) ow3 (os2 ++ []) H2 := by rw [List.append_nil]; exact po3
  obtain ⟨ow4, po4, _⟩ := put_part (i := j) es po3' (r2.avoid fun a z => .inl (lo a (inc a (by rw [List.append_nil] at z; exact z))))
  refine ⟨v, w, rfl, kq _ ow4 H2 po4 fun hpr => ?_⟩
  rw [hpr] at hp
  have : i ≠ 0 ∧ j ≠ 0 := by simpa using hp
  rw [List.getElem?_set_ne this.2, List.getElem?_set_ne this.1]

/-! ### self.f = e -/
theorem putF_zip {f : Str} {v : V} : ∀ {fl : List Str} {vs : List V}, idxF f fl = some vs.length → putF f v (fl.zip vs) = fl.zip (vs ++ [v])
  | [], vs, h => by simp [idxF] at h
  | y :: r, vs, h => by
    unfold idxF at h
    split at h
    · rename_i e
      subst e
      have : vs = [] := List.eq_nil_of_length_eq_zero (Option.some.inj h).symm
      subst this
      cases r <;> rfl
    · rename_i e
      obtain ⟨j, hj, hjl⟩ := Option.map_eq_some_iff.mp h
      cases vs with
      | nil => simp at hjl
      | cons w ws =>
        have hj' : idxF f r = some ws.length := by rw [hj]; simp at hjl; rw [hjl]
        show putF f v ((y, w) :: r.zip ws) = (y, w) :: r.zip (ws ++ [v])
        rw [show putF f v ((y, w) :: r.zip ws) = (if y = f then (y, v) :: r.zip ws else (y, w) :: putF f v (r.zip ws)) from rfl, if_neg (fun z => e z.symm), putF_zip hj']
def gFld (K : PySem.W.Frag) (f : Str) : TG := fun v σ H Q => ∃ a C dx fs, σ[0]? = some (some (.ref a)) ∧ H a = some (.ins C dx fs) ∧ Cls K C ∧ NoAttr K C f ∧ fs.length < 1000 ∧ Q σ (upd H a (.ins C dx (putF f v fs)))
theorem pg_fldO {x : Expr} {f : Str} {p : Pos} (ho : PE X x (tVar 0)) : PG X (.Attribute x f p) (gFld X.K f) := by
  refine ⟨fun pins s σ H v u Q I r ⟨a, C, dx, fs, hσ, ha, hc, hn, hl, q⟩ => ?_⟩
  rw [arm_assign_Attribute]
  refine wpAny_bind (wpAny_holding (thn (ho.run pins s σ H (fun x H1 => x = .ref a ∧ H1 = H) I ⟨_, hσ, rfl, rfl⟩) fun ov s1 ⟨x1, H1, I1, r1, e1, e2⟩ => ?_))
  subst e1 e2
  cases r1
  exact wpAny_bind (wpAny_standAt (wpAny_bind (wpAny_holding (setattr_ok I1 ha hc hn hl r fun s2 I2 => wpAny_release ⟨σ, _, I2, q⟩))))
def gFlds (K : PySem.W.Frag) : List Str → TGs
  | [] => gNil
  | f :: fs => gCons (gFld K f) (gFlds K fs)
theorem pgs_flds (g : Good c G W X) : ∀ {es : List Expr} {fs : List Str}, okAttrs c es fs = true → PGs X es (gFlds X.K fs) ∧ (assignEach es X.env).length = fs.length ∧ (assignEach es X.env).findIdx? (·.1) = none ∧ ∀ e f, es = [e] → fs = [f] → PG X e (gFld X.K f)
  | [], [], _ => ⟨pgs_nil, rfl, rfl, fun e f h => by cases h⟩
  | e :: es, f :: fs, h => by
    unfold okAttrs at h
    simp only [Bool.and_eq_true] at h
    obtain ⟨h1, h2⟩ := h
    split at h1
    · rename_i o g' hx
      obtain ⟨p, rfl⟩ := vAttr_eq hx
      simp only [Bool.and_eq_true, decide_eq_true_eq] at h1
      obtain ⟨rfl, h1⟩ := h1
      split at h1
      · rename_i n hn
        obtain ⟨q, rfl⟩ := vName_eq hn
        obtain ⟨n1, n2, n3, n4⟩ := var_vis g h1
        obtain ⟨p1, p2, p3, _⟩ := pgs_flds g h2
        have pg := pg_fldO (X := X) (f := g') (p := p) (pe_var (pos := q) n1 n2 n3 n4)
        refine ⟨pgs_cons pg p1 rfl, ?_, ?_, fun e f he hf => by cases he; cases hf; exact pg⟩
        · show (_ :: assignEach es X.env).length = _
          simp [p2]
        · show List.findIdx? (·.1) ((false, _) :: assignEach es X.env) = none
          rw [List.findIdx?_cons]
          simp [p3]
      · cases h1
    · cases h1
  | [], _ :: _, h => by unfold okAttrs at h; cases h
  | _ :: _, [], h => by unfold okAttrs at h; cases h
end
end VS
set_option Elab.async false
set_option linter.all false
set_option maxRecDepth 100000
set_option maxHeartbeats 2000000
/-! VTc: self.f = e. -/
namespace VS
open PySem PySem.Spec PyProof.Rows L2
theorem idx_lt {f : Str} : ∀ {fl : List Str} {j : Nat}, idxF f fl = some j → j < fl.length
  | [], _, h => by simp [idxF] at h
  | y :: r, j, h => by
    unfold idxF at h
    split at h
    · cases h; simp
    · obtain ⟨j', hj, rfl⟩ := Option.map_eq_some_iff.mp h
      have := idx_lt hj
      simp; omega
section
variable {R : Rt} {H H0 : Hp} {Rs : Av} {env : VE} {σ : L2.St} {ow ow0 : Own}
theorem fld_put (es : ES R H Rs env σ ow) {k : Nat} {ds : List VS.D} {x : VS.D} {w : V} {f : Str} (hg : getV env 0 = some (.obj true k ds)) (hf : idxF f (R.fl k) = some ds.length) (r : RP R H (Avd ow Rs) x w []) :
    ∃ a dx vs, σ[0]? = some (some (.ref a)) ∧ H a = some (.ins (R.ca k) dx ((R.fl k).zip vs)) ∧ k < R.nc ∧ vs.length = ds.length ∧ a ∈ ow 0 ∧ ES R (upd H a (.ins (R.ca k) dx ((R.fl k).zip (vs ++ [w])))) Rs (setV env 0 (.obj true k (ds ++ [x]))) σ ow := by
  obtain ⟨hl, he⟩ := getV_lt hg
  obtain ⟨v, hv, r0⟩ := es.rep 0 _ he
  unfold RP at r0
  simp only [if_true] at r0
  obtain ⟨a, dx, vs, os', rfl, e0, ha, ⟨hle, hnc⟩, rr⟩ := r0
  have nd := es.nd 0
  rw [e0] at nd
  obtain ⟨nd1, nd2⟩ := List.nodup_cons.mp nd
  have hS : ∀ b, b = a → Avd ow Rs b := fun b z => by subst z; exact .inl ⟨0, by rw [e0]; exact List.mem_cons_self⟩
  have c := upd_hp (o := .ins (R.ca k) dx ((R.fl k).zip (vs ++ [w]))) ha trivial
  have eow : setO ow 0 (a :: os') = ow := by
    funext j
    by_cases hj : j = 0
    · subst hj; rw [setO_same, e0]
    · rw [setO_ne hj]
  have p := ES.put (S := fun b => b = a) (H' := upd H a (.ins (R.ca k) dx ((R.fl k).zip (vs ++ [w])))) (Rs' := Rs) (os := a :: os') (d' := .obj true k (ds ++ [x])) (v' := .ref a) es hl c (fun b z => .inl (by subst z; rw [e0]; exact List.mem_cons_self)) (fun b z => by
      by_cases hb : b = a
      · subst hb; rw [upd_same]; simp
      · rw [upd_ne hb]; exact z) (fun b z => ⟨z, fun y => es.rs b z ⟨0, by rw [e0]; exact y⟩⟩) (fun b hb => .inl (by rw [e0]; exact hb)) nd (by
    rw [eow]
    unfold RP
    simp only [if_true]
    have hlt := idx_lt hf
    refine ⟨a, dx, vs ++ [w], os', rfl, rfl, upd_same, ⟨by rw [List.length_append, rr.length]; simp; omega, hnc⟩, ?_⟩
    have q := (rr.append (RPs.one r)).chg (A' := Avd ow Rs) c hS (fun b z => .inl z) (fun b hb z => by subst z; simp at hb; exact nd1 hb)
    rw [List.append_nil] at q
    exact q)
  rw [set_same hv, eow] at p
  exact ⟨a, dx, vs, hv, ha, hnc, rr.length, by rw [e0]; exact List.mem_cons_self, p⟩
end
section
variable {G : Wd} {W : WX} {X : Cx} {c : Ck} {pr : Bool}
/-- one attribute stored -/
theorem fld_step {mu : Bool} {Rs : Av} {ow0 ow : Own} {H0 H : Hp} {env : VE} {σ : L2.St} {d d' x : VS.D} {w : V} {f : Str} {Q : L2.St → Hp → Prop} (hK : X.K = G.R.K) (wd : WdOk G X.prog X.w X.mg X.base) (po : Po G.R Rs mu ow0 H0 env σ ow [] H) (hg : getV env 0 = some d) (ha : asgD G.T d f x = some d') (r : RP G.R H (Avd ow (Tm Rs [])) x w [])
    (q : ∀ H', Po G.R Rs true ow0 H0 (setV env 0 d') σ ow [] H' → (∀ (A : Av) (xs : List VS.D) (vs : List V), (∀ b, Avd ow (Tm Rs []) b → A b) → RPs G.R H A xs vs [] → RPs G.R H' A xs vs []) → Q σ H') : gFld X.K f w σ H Q := by
  unfold asgD at ha
  split at ha
  · rename_i k vs0
    split at ha
    · rename_i cl hcl
      split at ha
      · rename_i j hj
        split at ha
        · rename_i hjl
          cases ha
          subst hjl
          have C := wd.cl k cl hcl
          obtain ⟨a, dx, vs, hσ, hH, hk, hlen, hin, es'⟩ := fld_put po.es hg (by rw [C.fl]; exact hj) r
          have hex := C.nc.mpr hk
          have hz : ((G.R.fl k).zip vs).length < 1000 := by
            rw [List.length_zip, C.fl]
            have := C.few
            omega
          have hp : putF f w ((G.R.fl k).zip vs) = (G.R.fl k).zip (vs ++ [w]) := putF_zip (by rw [C.fl, hj, hlen])
          refine ⟨a, _, dx, _, hσ, hH, hK ▸ (wd.cls k hk).cls, hK ▸ C.att hex f (idx_mem hj), hz, ?_⟩
          rw [hp]
          have oldA : Ow ow0 a ∨ H0 a = none := po.new a (.inl ⟨0, hin⟩)
          refine q _ ⟨es', po.new, fun b o e z => ?_, fun b z => ?_, by simp⟩ fun A xs ws hA rr => rr.chg (upd_hp hH trivial) (fun b z => hA b (by subst z; exact .inl ⟨0, hin⟩)) (fun b z => .inl z) (by simp)
          · have hb : b ≠ a := fun y => by
              subst y
              rcases oldA with y | y
              · exact z rfl y
              · rw [e] at y; cases y
            rw [upd_ne hb]
            exact po.fr b o e fun _ => z rfl
          · have := po.trk b z
            by_cases hb : b = a
            · subst hb; rw [upd_same]; simp
            · rw [upd_ne hb]; exact this
        · cases ha
      · cases ha
    · cases ha
  · cases ha
theorem getV_set {env : VE} {d0 d : VS.D} (h : getV env 0 = some d0) : getV (setV env 0 d) 0 = some d := by
  obtain ⟨hl, _⟩ := getV_lt h
  unfold getV setV
  rw [List.getElem?_set_self hl]
theorem flds_ok {Rs : Av} {ow0 ow : Own} {H0 : Hp} {σ : L2.St} {d' : VS.D} {Q : L2.St → Hp → Prop} (hK : X.K = G.R.K) (wd : WdOk G X.prog X.w X.mg X.base) : ∀ {fs : List Str} {xs : List VS.D} {vs : List V} {env : VE} {d : VS.D} {H : Hp} {mu : Bool}, Po G.R Rs mu ow0 H0 env σ ow [] H → getV env 0 = some d → asgDs G.T d fs xs = some d' →
    RPs G.R H (Avd ow (Tm Rs [])) xs vs [] → (∀ H', Po G.R Rs true ow0 H0 (setV env 0 d') σ ow [] H' → Q σ H') → gFlds X.K fs vs σ H Q
  | [], [], vs, env, d, H, mu, po, hg, ha, r, q => by
    unfold asgDs at ha; cases ha
    unfold RPs at r
    refine ⟨r.1, q H ?_⟩
    obtain ⟨hl, he⟩ := getV_lt hg
    have e0 : setV env 0 d' = env := by
      unfold setV
      exact set_same he
    rw [e0]
    exact po.le fun _ => rfl
  | f :: fs, x :: xs, vs, env, d, H, mu, po, hg, ha, r, q => by
    unfold asgDs at ha
    obtain ⟨d1, h1, h2⟩ := Option.bind_eq_some_iff.mp ha
    unfold RPs at r
    obtain ⟨v, vs', o1, o2, rfl, e, r1, r2⟩ := r
    obtain ⟨e1, e2⟩ := List.append_eq_nil_iff.mp e.symm
    subst e1 e2
    refine ⟨v, vs', rfl, fld_step hK wd po hg h1 r1 fun H' po' tr => flds_ok hK wd po' (getV_set hg) h2 (tr _ _ _ (fun b z => z) r2) fun H'' p'' => q H'' ?_⟩
    have : setV (setV env 0 d1) 0 d' = setV env 0 d' := by unfold setV; rw [List.set_set]
    rw [this] at p''
    exact p''
  | [], x :: xs, vs, env, d, H, mu, po, hg, ha, r, q => by unfold asgDs at ha; cases ha
  | f :: fs, [], vs, env, d, H, mu, po, hg, ha, r, q => by unfold asgDs at ha; cases ha
theorem asgDs_len {T : Tab} : ∀ {fs : List Str} {xs : List VS.D} {d d' : VS.D}, asgDs T d fs xs = some d' → fs.length = xs.length
  | [], [], _, _, _ => rfl
  | f :: fs, x :: xs, d, d', h => by
    unfold asgDs at h
    obtain ⟨d1, h1, h2⟩ := Option.bind_eq_some_iff.mp h
    simp [asgDs_len h2]
  | [], x :: xs, _, _, h => by unfold asgDs at h; cases h
  | f :: fs, [], _, _, h => by unfold asgDs at h; cases h
theorem s_asgF1 (g : Good c G W X) (hot : c.hot = false) {t x : Expr} {f : Str} {e : E} {p : Pos} (ht : okAttrs c [t] [f] = true) (he : okE c x e = true) (hc : isComp x = false) : PS X (.Assign [t] x p) (tS G W pr (.asgF [f] false e)) := by
  obtain ⟨c1, c2, c3, c4, c5⟩ := g.calm hot
  have pg := (pgs_flds g ht).2.2.2 t f rfl rfl
  obtain ⟨hsw, has⟩ : swappedStores [t] x X.env = pure none ∧ (assignEach [t] X.env).map (·.2) = [assign t X.env] := by
    unfold okAttrs at ht
    simp only [Bool.and_eq_true] at ht
    obtain ⟨h1, _⟩ := ht
    split at h1
    · rename_i o g' hx
      obtain ⟨q, rfl⟩ := vAttr_eq hx
      exact ⟨rfl, rfl⟩
    · cases h1
  refine PSimp (ps_asg (sndE e he g).pe pg (sole_no hc) hsw has) fun D σ H ⟨env, ow, Rs, es, k⟩ => ?_
  rw [evS] at k
  refine ⟨env, ow, Rs, es, k.fl.imp fun p _ kp v H1 ow1 os1 po r => ?_⟩
  split at kp
  · rename_i d hg
    simp only at kp
    split at kp
    · rename_i d' hd
      exact fld_step g.K c5 po.nil hg hd ((po.fz1 es r).avoid fun a q => .inl (AvdTm.mp q)) fun H' p' _ => kp σ ow1 H' p' Sm.refl
    · exact kp.elim
  · exact kp.elim
theorem s_asgFn (g : Good c G W X) (hot : c.hot = false) {x : Expr} {es : List Expr} {kt : Nat} {tp : Pos} {fs : List Str} {e : E} {p : Pos} (ht : okAttrs c es fs = true) (he : okE c x e = true) (hc : isComp x = false) (hsw : swappedStores [.Tuple es kt tp] x X.env = pure none) : PS X (.Assign [.Tuple es kt tp] x p) (tS G W pr (.asgF fs true e)) := by
  obtain ⟨c1, c2, c3, c4, c5⟩ := g.calm hot
  obtain ⟨p1, p2, p3, _⟩ := pgs_flds g ht
  refine PSimp (ps_asg (sndE e he g).pe (pg_tup c1 p1 p2 p3) (sole_no hc) hsw rfl) fun D σ H ⟨env, ow, Rs, es, k⟩ => ?_
  rw [evS] at k
  refine ⟨env, ow, Rs, es, k.fl.imp fun p _ kp v H1 ow1 os1 po r => ?_⟩
  split at kp
  · rename_i d hg
    have kp : KS G.R W pr Rs ow H σ (match p.1 with
        | .tup xs => match asgDs G.T d fs xs with
          | some d' => .nx (setV p.2 0 d')
          | none => .no
        | _ => .no) D := kp
    split at kp
    · rename_i xs hxs
      rw [hxs] at r
      obtain ⟨z, a, vs, rfl, hT, rr⟩ := r.tupD
      subst z
      split at kp
      · rename_i d' hd
        refine ⟨a, vs, rfl, g.K ▸ hT, by rw [rr.length, asgDs_len hd], flds_ok g.K c5 po hg hd rr fun H' p' => kp σ ow1 H' p' Sm.refl⟩
      · exact kp.elim
    · exact kp.elim
  · exact kp.elim
theorem attr_sw {es : List Expr} {kt : Nat} {tp : Pos} {fs : List Str} {x : Expr} (ht : okAttrs c es fs = true) (hn : es ≠ []) : swappedStores [.Tuple es kt tp] x X.env = pure none := by
  have hnames : ∀ {es : List Expr} {fs : List Str} (line : Nat), okAttrs c es fs = true → (es.filterMap fun
      | .Name id pos => if X.env.kindOf id == some .local && pos.line == line then some id else none
      | _ => none) = [] := by
    intro es
    induction es with
    | nil => intro fs line _; rfl
    | cons e es ih =>
      intro fs line h
      cases fs with
      | nil => unfold okAttrs at h; cases h
      | cons f fs =>
        unfold okAttrs at h
        simp only [Bool.and_eq_true] at h
        obtain ⟨h1, h2⟩ := h
        split at h1
        · rename_i o g' hx
          obtain ⟨q, rfl⟩ := vAttr_eq hx
          rw [List.filterMap_cons]
          exact ih line h2
        · cases h1
  cases x with
  | Tuple vs k2 p2 =>
    unfold swappedStores
    simp only []
    generalize hgen : List.filterMap _ es = names
    have hnil : names = [] := by rw [← hgen]; exact hnames _ ht
    subst hnil
    have h2 : ([] : List Str).length ≠ es.length := fun z => hn (List.eq_nil_of_length_eq_zero z.symm)
    have h3 : (([] : List Str).length != es.length || ([] : List Str).eraseDups.length != ([] : List Str).length) = true := by
      rw [bne_iff_ne.mpr h2]; rfl
    rw [h3]
    split
    · rfl
    · split <;> rfl
  | _ => rfl
end
end VS
set_option Elab.async false
set_option linter.all false
set_option maxRecDepth 100000
set_option maxHeartbeats 2000000
/-! VTd: try .. except C as n. -/
namespace VS
open PySem PySem.Spec PyProof.Rows L2
section
variable {R : Rt} {x : Nat × Addr × Addr} {H : Hp} {A : Av}
mutual
theorem RP.withX (h0 : R.exc = none) : ∀ {d : VS.D} {v : V} {os : List Addr}, RP R H A d v os → RP { R with exc := some x } H A d v os
  | .non, v, os, h => by unfold RP at h ⊢; exact h
  | .bl b, v, os, h => by unfold RP at h ⊢; exact h
  | .int i, v, os, h => by unfold RP at h ⊢; exact h
  | .str s, v, os, h => by unfold RP at h ⊢; exact h
  | .cls c, v, os, h => by unfold RP at h ⊢; exact h
  | .ty n, v, os, h => by unfold RP at h ⊢; exact h
  | .rng a b, v, os, h => by unfold RP at h ⊢; exact h
  | .tup ds, v, os, h => by
    unfold RP at h ⊢
    obtain ⟨h1, a, vs, e, hs, r⟩ := h
    exact ⟨h1, a, vs, e, hs, RPs.withX h0 r⟩
  | .exv c ds, v, os, h => by
    unfold RP at h
    obtain ⟨_, a, dd, vs, _, e, _⟩ := h
    rw [h0] at e; cases e
  | .lst o ds, v, os, h => by
    unfold RP at h ⊢
    cases o with
    | true =>
      simp only [if_true] at h ⊢
      obtain ⟨a, vs, os', e, e2, hs, r⟩ := h
      exact ⟨a, vs, os', e, e2, hs, RPs.withX h0 r⟩
    | false =>
      simp only [Bool.false_eq_true, if_false] at h ⊢
      obtain ⟨h1, a, vs, e, hs, r⟩ := h
      exact ⟨h1, a, vs, e, hs, RPs.withX h0 r⟩
  | .obj o c ds, v, os, h => by
    unfold RP at h ⊢
    cases o with
    | true =>
      simp only [if_true] at h ⊢
      obtain ⟨a, dx, vs, os', e, e2, hs, hl, r⟩ := h
      exact ⟨a, dx, vs, os', e, e2, hs, hl, RPs.withX h0 r⟩
    | false =>
      simp only [Bool.false_eq_true, if_false] at h ⊢
      obtain ⟨h1, a, dx, vs, e, na, hs, hl, r⟩ := h
      exact ⟨h1, a, dx, vs, e, na, hs, hl, RPs.withX h0 r⟩
theorem RPs.withX (h0 : R.exc = none) : ∀ {ds : List VS.D} {vs : List V} {os : List Addr}, RPs R H A ds vs os → RPs { R with exc := some x } H A ds vs os
  | [], vs, os, h => by unfold RPs at h ⊢; exact h
  | d :: ds, vs, os, h => by
    unfold RPs at h ⊢
    obtain ⟨v, vs', o1, o2, e1, e2, h1, h2⟩ := h
    exact ⟨v, vs', o1, o2, e1, e2, RP.withX h0 h1, RPs.withX h0 h2⟩
end
mutual
theorem RP.noX : ∀ {d : VS.D} {v : V} {os : List Addr}, d.noX = true → RP { R with exc := some x } H A d v os → RP R H A d v os
  | .non, v, os, _, h => by unfold RP at h ⊢; exact h
  | .bl b, v, os, _, h => by unfold RP at h ⊢; exact h
  | .int i, v, os, _, h => by unfold RP at h ⊢; exact h
  | .str s, v, os, _, h => by unfold RP at h ⊢; exact h
  | .cls c, v, os, _, h => by unfold RP at h ⊢; exact h
  | .ty n, v, os, _, h => by unfold RP at h ⊢; exact h
  | .rng a b, v, os, _, h => by unfold RP at h ⊢; exact h
  | .tup ds, v, os, hn, h => by
    unfold D.noX at hn
    unfold RP at h ⊢
    obtain ⟨h1, a, vs, e, hs, r⟩ := h
    exact ⟨h1, a, vs, e, hs, RPs.noX hn r⟩
  | .exv c ds, v, os, hn, h => by unfold D.noX at hn; cases hn
  | .lst o ds, v, os, hn, h => by
    unfold D.noX at hn
    unfold RP at h ⊢
    cases o with
    | true =>
      simp only [if_true] at h ⊢
      obtain ⟨a, vs, os', e, e2, hs, r⟩ := h
      exact ⟨a, vs, os', e, e2, hs, RPs.noX hn r⟩
    | false =>
      simp only [Bool.false_eq_true, if_false] at h ⊢
      obtain ⟨h1, a, vs, e, hs, r⟩ := h
      exact ⟨h1, a, vs, e, hs, RPs.noX hn r⟩
  | .obj o c ds, v, os, hn, h => by
    unfold D.noX at hn
    unfold RP at h ⊢
    cases o with
    | true =>
      simp only [if_true] at h ⊢
      obtain ⟨a, dx, vs, os', e, e2, hs, hl, r⟩ := h
      exact ⟨a, dx, vs, os', e, e2, hs, hl, RPs.noX hn r⟩
    | false =>
      simp only [Bool.false_eq_true, if_false] at h ⊢
      obtain ⟨h1, a, dx, vs, e, na, hs, hl, r⟩ := h
      exact ⟨h1, a, dx, vs, e, na, hs, hl, RPs.noX hn r⟩
theorem RPs.noX : ∀ {ds : List VS.D} {vs : List V} {os : List Addr}, D.allNoX ds = true → RPs { R with exc := some x } H A ds vs os → RPs R H A ds vs os
  | [], vs, os, _, h => by unfold RPs at h ⊢; exact h
  | d :: ds, vs, os, hn, h => by
    unfold D.allNoX at hn
    simp only [Bool.and_eq_true] at hn
    unfold RPs at h ⊢
    obtain ⟨v, vs', o1, o2, e1, e2, h1, h2⟩ := h
    exact ⟨v, vs', o1, o2, e1, e2, RP.noX hn.1 h1, RPs.noX hn.2 h2⟩
end
theorem envNoX_get : ∀ {env : VE}, envNoX env = true → ∀ (i : Nat) d, env[i]? = some (some d) → d.noX = true
  | [], _, i, d, e => by simp at e
  | some d0 :: r, h, 0, d, e => by
    unfold envNoX at h
    simp only [Bool.and_eq_true] at h
    simp at e; subst e
    exact h.1
  | some d0 :: r, h, i + 1, d, e => by
    unfold envNoX at h
    simp only [Bool.and_eq_true] at h
    exact envNoX_get h.2 i d (by simpa using e)
  | none :: r, h, 0, d, e => by simp at e
  | none :: r, h, i + 1, d, e => by
    unfold envNoX at h
    exact envNoX_get h i d (by simpa using e)
theorem ES.withX {Rs : Av} {env : VE} {σ : L2.St} {ow : Own} (h0 : R.exc = none) (s : ES R H Rs env σ ow) : ES { R with exc := some x } H Rs env σ ow :=
  ⟨s.len, fun i d e => by
    obtain ⟨v, hv, r⟩ := s.rep i d e
    exact ⟨v, hv, r.withX h0⟩, s.nil, s.nd, s.dj, s.rs, s.rt⟩
theorem ES.noX {Rs : Av} {env : VE} {σ : L2.St} {ow : Own} (h : envNoX env = true) (s : ES { R with exc := some x } H Rs env σ ow) : ES R H Rs env σ ow :=
  ⟨s.len, fun i d e => by
    obtain ⟨v, hv, r⟩ := s.rep i d e
    exact ⟨v, hv, r.noX (envNoX_get h i d e)⟩, s.nil, s.nd, s.dj, s.rs, s.rt⟩
/-- a slot forgotten -/
theorem ES.del {Rs : Av} {env : VE} {σ : L2.St} {ow : Own} (s : ES R H Rs env σ ow) (i : Nat) : ES R H Rs (delV env i) (σ.set i none) (ow0 ow [i]) := by
  have := s.wipe [i]
  unfold wipeV wipeV L2.wipe L2.wipe at this
  exact this
end
/-- behind a suite: its name is forgotten, the caught exception too -/
theorem Po.suite {R : Rt} {x : Nat × Addr × Addr} {Rs : Av} {ow ow1 ow2 ow3 : Own} {H H1 H2 : Hp} {σ1 σ2 : L2.St} {e1 e2 : VE} {os : List Addr} {i : Nat} (p : Po R Rs true ow H e1 σ1 ow1 [] H1) (q : Po { R with exc := some x } (Tm Rs []) true ow2 H1 e2 σ2 ow3 os H2) (sub : ∀ a, Ow ow2 a → Ow ow1 a) (n : envNoX (delV e2 i) = true) : Po R Rs true ow H (delV e2 i) (σ2.set i none) (ow0 ow3 [i]) os H2 where
  es := ((q.es.del i).noX n).less fun a h => h.imp (fun z => Tm.nil.mpr z) id
  new := fun a h => by
    rcases q.new a (h.imp ow0_sub id) with z | z
    · exact p.new a (.inl (sub a z))
    · exact .inr (Classical.byContradiction fun y => p.trk a y z)
  fr := fun a o e h => by
    refine q.fr a o (p.fr a o e h) fun _ z => ?_
    rcases p.new a (.inl (sub a z)) with y | y
    · exact h rfl y
    · rw [e] at y; cases y
  trk := fun a h => q.trk a (p.trk a h)
  nd := q.nd
/-- the frame is a def's own -/
def Fram (X : Cx) : Prop := X.stack = X.env :: X.outer ∧ X.env.frame = some X.env.locals
def Pas (c : Ck) (X : Cx) : Prop := c.hot = false → PassesOwn (model X.prog X.w) X.A X.env X.xe
/-- with a caught exception -/
def Wd.withX (G : Wd) (x : Nat × Addr × Addr) : Wd := { G with R := { G.R with exc := some x } }
theorem Good.suite {G : Wd} {W : WX} {X : Cx} {c : Ck} (g : Good c G W X) (hot : c.hot = false) {a : Addr} {oe : Obj} {pn : List (Addr × Obj)} {e : Nat} {dd : Addr} {cl : ClsI} (hz : Zc (.ref (G.R.ca e)) (some dd) oe) (hf : ∃ vs, oe.data = .fields vs) (hcl : G.T.cls[e]? = some cl) (hex : cl.ex = true) : Good { c with hot := true } (G.withX (e, a, dd)) NoW (Cx.suite X a ((a, oe) :: pn)) := by
  obtain ⟨c1, c2, c3, c4, c5⟩ := g.calm hot
  have C := c5.cl e cl hcl
  obtain ⟨x1, x2⟩ := c5.xf e cl hcl hex
  exact ⟨g.sc, g.N, g.nd, g.fn, g.K, g.nm, ⟨g.nmk.gf, g.nmk.gc, g.nmk.bn, g.nmk.nc⟩, g.un, fun z => absurd z (by simp), fun _ => ⟨X, a, oe, pn, e, dd, cl, rfl, hz, hf, rfl, hcl, C.fl, C.nd, x1, x2⟩⟩
theorem try_snd {G : Wd} {W : WX} {X : Cx} {c : Ck} {pr : Bool} (g : Good c G W X) (hot : c.hot = false) (fr : Fram X) {x n : Str} {k i : Nat} {bs ss : List Stmt} {s₀ : Stmt} {b hb : B} {p np hp' : Pos} (hgc : c.nm.gc[k]? = some (some x)) (hg : c.glo x = true) (hi : c.N[i]? = some n) (hl : isLocal c.sc n = true) (hpi : (!pr || decide (i ≠ 0)) = true)
    (body : ∀ {W' : WX} {X' : Cx}, Good c G W' X' → Pas c X' → Fram X' → PSs X' bs (tB G W' pr b)) (suite : ∀ {G' : Wd} {W' : WX} {X' : Cx}, Good { c with hot := true } G' W' X' → Fram X' → PSs X' (s₀ :: ss) (tB G' W' pr hb)) :
    PS X (.Try bs [.ExceptHandler (some (.Name x np)) (some n) (s₀ :: ss) hp'] [] [] p) (tS G W pr (.tryS b (.cons k (some i) hb .nil))) := by
  obtain ⟨c1, c2, c3, c4, c5⟩ := g.calm hot
  obtain ⟨g1, g2, g3⟩ := glo_ok g hg
  have hloc : X.env.kindOf n = some .local := by
    unfold Env.kindOf
    rw [g.sc]
    unfold isLocal at hl
    split at hl
    · assumption
    · cases hl
  have hnm : Names X x (.ref (G.R.ca k)) := ⟨g1, g2, .inl (g.nmk.gc k x (by rw [← g.nm]; exact hgc)).1⟩
  refine PSimp (ps_try_as fr.1 fr.2 g.nd (by rw [g.N]; exact hi) hloc hnm c3 (tb := fun W' => tB G W' pr b) (fun W' pn xe tk ps => ?_) (ts := fun a cls d D σ H => ∃ e dd cl, cls = .ref (G.R.ca e) ∧ d = some dd ∧ G.T.cls[e]? = some cl ∧ cl.ex = true ∧ tB (G.withX (e, a, dd)) NoW pr hb D σ H) (fun a oe cls d pn hz hf => ?_)) fun D σ H ⟨env, ow, Rs, es, kk⟩ => ⟨env, ow, Rs, es, ?_⟩
  · exact body ⟨g.sc, g.N, g.nd, g.fn, g.K, g.nm, g.nmk, g.un, fun _ => ⟨c1, c2, tk, c4, c5⟩, fun z => by rw [hot] at z; cases z⟩ (fun _ => ps) fr
  · refine ⟨fun pins s σ H D I ⟨e, dd, cl, e1, e2, hcl, hex, q⟩ => ?_⟩
    subst e1 e2
    exact (suite (g.suite hot hz hf hcl hex) fr).run pins s σ H D I q
  · rw [evS] at kk
    cases hr : evBl G.T G.call b env with
    | nx v => rw [hr] at kk; exact kk
    | bk v => rw [hr] at kk; exact kk
    | ct v => rw [hr] at kk; exact kk
    | rt d v => rw [hr] at kk; exact kk
    | no => rw [hr] at kk; exact kk
    | ex c' xs e =>
      rw [hr] at kk
      have kk : KS G.R W pr Rs ow H σ (evHs G.T G.call (.cons k (some i) hb .nil) c' xs e) D := kk
      rw [evHs] at kk
      intro σ' ow' H' dd po xb sm
      split at kk
      · exact kk.elim
      · rename_i hexc
        have hexc : excC G.T c' = true ∧ excC G.T k = true := by
          cases h1 : excC G.T c' <;> cases h2 : excC G.T k <;> simp [h1, h2] at hexc ⊢
        refine ⟨subC G.T c' k, by rw [g.K]; exact c5.sub c' k hexc.1 hexc.2, fun hb1 a ha => ?_, fun hb0 => ?_⟩
        · rw [if_pos hb1] at kk
          obtain ⟨cl, hcl, hcx⟩ : ∃ cl, G.T.cls[c']? = some cl ∧ cl.ex = true := by
            have := hexc.1
            unfold excC at this
            split at this
            · rename_i cl h; exact ⟨cl, h, this⟩
            · cases this
          refine ⟨c', dd, cl, rfl, rfl, hcl, hcx, ?_⟩
          obtain ⟨vs, hx1, hx2, hx3⟩ := xb
          have r : RP (G.withX (c', a, dd)).R H' (Avd ow' (Tm Rs [])) (.exv c' xs) (.ref a) [] := by
            unfold RP
            exact ⟨rfl, a, dd, vs, rfl, rfl, hx1, hx2, RPs.withX c4 (hx3.avoid fun b hb => .inl (hb.imp id fun z => Tm.nil.mp z))⟩
          obtain ⟨ow2, es3, sub⟩ := (ES.withX (x := (c', a, dd)) c4 po.es).set0 (i := i) r
          refine ⟨_, ow2, _, es3, ?_⟩
          show KS _ NoW pr (Tm Rs []) ow2 H' (σ'.set i (some (.ref a))) (evBl G.T G.call hb (setV e i (.exv c' xs))) _
          have smi : Sm pr σ' (σ'.set i (some (.ref a))) := sm_set hpi
          have kk : KS G.R W pr Rs ow H σ (match evBl G.T G.call hb (setV e i (.exv c' xs)) with
            | .nx e => if envNoX (delV e i) then Fl.nx (delV e i) else .no
            | .rt d e => if envNoX (delV e i) && d.noX then .rt d (delV e i) else .no
            | _ => .no) D := kk
          cases hr : evBl G.T G.call hb (setV e i (.exv c' xs)) with
          | nx e2 =>
            rw [hr] at kk
            intro σ2 ow3 H2 po2 sm2
            show D.nx (σ2.set i none) H2
            by_cases n : envNoX (delV e2 i) = true
            · have kk : KS G.R W pr Rs ow H σ (if envNoX (delV e2 i) then Fl.nx (delV e2 i) else .no) D := kk
              rw [if_pos n] at kk
              exact kk _ _ _ (po.suite po2 sub n) ((sm.trans smi).trans (sm2.trans (sm_set hpi)))
            · have kk : KS G.R W pr Rs ow H σ (if envNoX (delV e2 i) then Fl.nx (delV e2 i) else .no) D := kk
              rw [if_neg n] at kk
              exact kk.elim
          | rt d e2 =>
            rw [hr] at kk
            intro v σ2 ow3 os H2 po2 r2 sm2
            show D.rt v H2
            have kk : KS G.R W pr Rs ow H σ (if envNoX (delV e2 i) && d.noX then Fl.rt d (delV e2 i) else .no) D := kk
            by_cases n : (envNoX (delV e2 i) && d.noX) = true
            · rw [if_pos n] at kk
              simp only [Bool.and_eq_true] at n
              refine kk _ _ _ _ _ (po.suite po2 sub n.1) ?_ ((sm.trans smi).trans (sm2.trans (sm_set hpi)))
              exact (RP.noX n.2 r2).avoid fun b hb => .inl (hb.imp ow0_sub fun z => z.imp (fun z => Tm.nil.mpr z) id)
            · rw [if_neg n] at kk
              exact kk.elim
          | bk e2 => rw [hr] at kk; exact kk.elim
          | ct e2 => rw [hr] at kk; exact kk.elim
          | ex c2 xs2 e2 => rw [hr] at kk; exact kk.elim
          | no => rw [hr] at kk; exact kk.elim
        · rw [if_neg (by rw [hb0]; simp), evHs] at kk
          exact kk σ' ow' H' dd po xb sm
end VS
set_option Elab.async false
set_option linter.all false
set_option maxRecDepth 100000
set_option maxHeartbeats 2000000
/-! VTe: every statement. -/
namespace VS
open PySem PySem.Spec PyProof.Rows L2
section
variable {G : Wd}
theorem raise_snd {W : WX} {X : Cx} {c : Ck} {pr : Bool} (g : Good c G W X) (hot : c.hot = false) {x : Str} {k : Nat} {es : List Expr} {as : Es} {p q r : Pos} (hg : c.glo x = true) (hgc : c.nm.gc[k]? = some (some x)) (hne : es.isEmpty = false) (rr : SEs G W X es as) : PS X (.Raise (some (.Call (.Name x p) es [] q)) none r) (tS G W pr (.rai k as)) := by
  obtain ⟨c1, c2, c3, c4, c5⟩ := g.calm hot
  obtain ⟨g1, g2, g3⟩ := glo_ok g hg
  cases rr with
  | nil => cases hne
  | @cons e es a as st h1 rr =>
  refine PSimp (t := fun D σ H => raiC G.T k = true ∧ tS G W pr (.rai k (.cons a as)) D σ H) ?_ fun D σ H ⟨env, ow, Rs, es, kk⟩ => ?_
  · by_cases hx : raiC G.T k = true
    · obtain ⟨cl, hcl, hex, hfl⟩ : ∃ cl, G.T.cls[k]? = some cl ∧ cl.ex = true ∧ cl.fl ≠ [] := by
        have := hx
        unfold raiC at this
        split at this
        · rename_i cl h
          simp only [Bool.and_eq_true] at this
          exact ⟨cl, h, this.1, fun z => by rw [z] at this; exact absurd this.2 (by simp)⟩
        · cases this
      have M := c5.xm k cl hcl hex hfl
      have C := c5.cl k cl hcl
      rw [← g.K] at M
      refine PSimp (ps_raise c1 c3 (pmk_x M (c2.mono (by omega)) c3 g1 (g.nmk.gc k x (by rw [← g.nm]; exact hgc)).1 (pa_es (.cons st h1 rr)) g2 (star_cons st) (rr.star _))) fun D σ H ⟨_, env, ow, Rs, es, kk⟩ => ?_
      rw [evS, if_pos hx] at kk
      refine ⟨env, ow, Rs, es, kk.fl.imp fun p _ kp vs H1 ow1 os1 po r => ?_⟩
      rw [hcl] at kp
      have kp : KS G.R W pr Rs ow H σ (if decide (p.1.length = cl.fl.length) then .ex k (VS.D.fzs p.1) p.2 else .no) D := kp
      by_cases hl : p.1.length = cl.fl.length
      · rw [decide_eq_true hl, if_pos rfl] at kp
        have hv : vs.length = cl.fl.length := r.length.trans hl
        refine ⟨hv, fun d hd => kp σ ow1 _ d ((po.nil.grow (Gr.new hd) (by simp) (by simp)).le fun _ => rfl) ⟨vs, ?_, ?_, (po.fzs es r).grow (Gr.new hd) fun a q => .inl q⟩ Sm.refl⟩
        · rw [upd_same, C.fl]
        · rw [C.fl, hv]; exact Nat.le_refl _
      · rw [decide_eq_false hl, if_neg (by simp)] at kp
        exact kp.elim
    · exact PSnone fun D σ H q => hx q.1
  · refine ⟨?_, env, ow, Rs, es, kk⟩
    rw [evS] at kk
    by_cases hx : raiC G.T k = true
    · exact hx
    · rw [if_neg hx] at kk
      exact kk.elim
end
mutual
theorem sndS : ∀ (a : S) {G : Wd} {c : Ck} {W : WX} {X : Cx} {pr : Bool} {s : Stmt}, okS c pr s a = true → Good c G W X → Pas c X → Fram X → PS X s (tS G W pr a)
  | .never, G, c, W, X, pr, s, h, g, hp, fr => PSnone fun D σ H ⟨env, ow, Rs, es, k⟩ => by rw [evS] at k; exact k
  | .asg i e, G, c, W, X, pr, s, h, g, hp, fr => by
    unfold okS at h
    split at h
    · rename_i t x l0 hx
      obtain ⟨p, rfl, _⟩ := vAsg_eq hx
      split at h
      · rename_i n l hn
        simp only [Bool.and_eq_true] at h
        obtain ⟨h1, h2, h3, h4⟩ := h
        exact s_asg g hn h1 h2 h3 h4
      · cases h
    · cases h
  | .asgT is e, G, c, W, X, pr, s, h, g, hp, fr => by
    unfold okS at h
    split at h
    · rename_i t x l0 hx
      obtain ⟨p, rfl, _⟩ := vAsg_eq hx
      simp only [Bool.and_eq_true] at h
      obtain ⟨h0, h1, h2, h3, h4⟩ := h
      exact s_asgT g (not_tt h0) h1 h2 h3 h4
    · cases h
  | .par i j a b, G, c, W, X, pr, s, h, g, hp, fr => by
    unfold okS at h
    split at h
    · rename_i t u kt pt x y k2 pt2 l0 hx
      obtain ⟨p, rfl, _⟩ := vAsg_eq hx
      split at h
      · rename_i n l m l2 hn hm
        obtain ⟨px, rfl, rfl⟩ := vNameL_eq hn
        obtain ⟨py, rfl, rfl⟩ := vNameL_eq hm
        simp only [Bool.and_eq_true, decide_eq_true_eq] at h
        obtain ⟨h0, ⟨h1, h2, h3⟩, h4, h5, h6, h7, h8, ⟨h9, h10⟩, h11, h12, h13⟩ := h
        exact s_par g (not_tt h0) h1 h2 h3 h4 (by simpa using h5) h6 h7 h8 (not_tt h9) (not_tt h10) (by simpa using h11) h12 h13
      · cases h
    · cases h
  | .asgF fs tu e, G, c, W, X, pr, s, h, g, hp, fr => by
    unfold okS at h
    split at h
    · rename_i t x l0 hx
      obtain ⟨p, rfl, _⟩ := vAsg_eq hx
      simp only [Bool.and_eq_true] at h
      obtain ⟨h0, h1, h2, h3⟩ := h
      cases tu with
      | false =>
        have h1 : okAttrs c [t] fs = true := h1
        cases fs with
        | nil => unfold okAttrs at h1; cases h1
        | cons f fs =>
          cases fs with
          | nil => exact s_asgF1 g (not_tt h0) h1 h2 (not_tt h3)
          | cons f2 fs => unfold okAttrs at h1; simp [okAttrs] at h1
      | true =>
        simp only at h1
        split at h1
        · rename_i es kt tp
          cases es with
          | nil => exact s_asgFn g (not_tt h0) h1 h2 (not_tt h3) (by cases x <;> rfl)
          | cons e0 es => exact s_asgFn g (not_tt h0) h1 h2 (not_tt h3) (attr_sw h1 (by simp))
        · cases h1
    · cases h
  | .asgS o i e, G, c, W, X, pr, s, h, g, hp, fr => by
    unfold okS at h
    split at h
    · rename_i t x l0 hx
      obtain ⟨p, rfl, _⟩ := vAsg_eq hx
      split at h
      · rename_i y z hy
        obtain ⟨tp, rfl, hs⟩ := vSub_eq hy
        simp only [Bool.and_eq_true] at h
        obtain ⟨h1, h2, h3, h4⟩ := h
        exact s_asgS g hs h1 h2 h3 (not_tt h4)
      · cases h
    · cases h
  | .aug i o e, G, c, W, X, pr, s, h, g, hp, fr => by
    unfold okS at h
    split at h
    · rename_i t q x hx
      obtain ⟨p, rfl⟩ := vAug_eq hx
      split at h
      · rename_i n hn
        simp only [Bool.and_eq_true, decide_eq_true_eq] at h
        obtain ⟨h1, h2, h3, rfl, h4, h5⟩ := h
        exact s_aug g hn h1 h2 h3 h5
      · cases h
    · cases h
  | .augS o i b e, G, c, W, X, pr, s, h, g, hp, fr => by
    unfold okS at h
    split at h
    · rename_i t q x hx
      obtain ⟨p, rfl⟩ := vAug_eq hx
      split at h
      · rename_i y z hy
        obtain ⟨tp, rfl, hs⟩ := vSub_eq hy
        simp only [Bool.and_eq_true, decide_eq_true_eq] at h
        obtain ⟨h1, h2, rfl, h4, h5⟩ := h
        exact s_augS g hs h1 h2 h5
      · cases h
    · cases h
  | .ifS k a b, G, c, W, X, pr, s, h, g, hp, fr => by
    unfold okS at h
    split at h
    · rename_i x as bs hx
      obtain ⟨p, rfl⟩ := vIfS_eq hx
      simp only [Bool.and_eq_true] at h
      exact s_if g h.1 (sndB a h.2.1 g hp fr) (sndB b h.2.2 g hp fr)
    · cases h
  | .forS ts tu it b, G, c, W, X, pr, s, h, g, hp, fr => by
    unfold okS at h
    split at h
    · rename_i t i bs hx
      obtain ⟨p, rfl⟩ := vFor_eq hx
      simp only [Bool.and_eq_true] at h
      obtain ⟨h0, h1, h2, h3, h4, h5⟩ := h
      exact s_for (hp (not_tt h0)) g (not_tt h0) h1 h2 h3 (sndB b h4 g hp fr)
    · cases h
  | .whS k b, G, c, W, X, pr, s, h, g, hp, fr => by
    unfold okS at h
    split at h
    · rename_i x bs hx
      obtain ⟨p, rfl⟩ := vWh_eq hx
      simp only [Bool.and_eq_true] at h
      obtain ⟨h0, h1, h2⟩ := h
      exact s_while (hp (not_tt h0)) g h1 (sndB b h2 g hp fr)
    · cases h
  | .ret e, G, c, W, X, pr, s, h, g, hp, fr => by
    unfold okS at h
    split at h
    · rename_i x hx
      obtain ⟨p, rfl⟩ := vRet_eq hx
      exact s_ret g h
    · cases h
  | .retN, G, c, W, X, pr, s, h, g, hp, fr => by
    unfold okS at h
    split at h
    · rename_i hx
      obtain ⟨p, rfl⟩ := vRet_eq hx
      exact s_retN
    · cases h
  | .rai k as, G, c, W, X, pr, s, h, g, hp, fr => by
    unfold okS at h
    split at h
    · rename_i x es hx
      obtain ⟨p, q, r, rfl⟩ := vRai_eq hx
      simp only [Bool.and_eq_true, decide_eq_true_eq] at h
      obtain ⟨h0, h1, h2, h3, h4⟩ := h
      exact raise_snd g (not_tt h0) h2 h1 (not_tt h4) (sndEs as h3 g)
    · cases h
  | .tryS b hs, G, c, W, X, pr, s, h, g, hp, fr => by
    unfold okS at h
    split at h
    · rename_i bs hd hx
      obtain ⟨p, rfl⟩ := vTry_eq hx
      simp only [Bool.and_eq_true] at h
      obtain ⟨h0, h1, h2⟩ := h
      cases hs with
      | nil => unfold okH at h2; cases h2
      | cons k v hb r =>
        cases r with
        | cons _ _ _ _ => cases v <;> (unfold okH at h2; cases h2)
        | nil =>
          cases v with
          | none => unfold okH at h2; cases h2
          | some i =>
            unfold okH at h2
            split at h2
            · rename_i x n s₀ ss hh
              obtain ⟨np, q, rfl⟩ := vHd_eq hh
              simp only [Bool.and_eq_true, decide_eq_true_eq] at h2
              obtain ⟨e1, e2, e3, e4, e5, e6⟩ := h2
              exact try_snd g (not_tt h0) fr e1 e2 e3 e4 (by simpa using e5) (fun g' hp' fr' => sndB b h1 g' hp' fr') (fun g' fr' => sndB hb e6 g' (fun z => by cases z) fr')
            · cases h2
    · cases h
  | .ex e, G, c, W, X, pr, s, h, g, hp, fr => by
    unfold okS at h
    split at h
    · rename_i x hx
      obtain ⟨p, rfl⟩ := vEx_eq hx
      simp only [Bool.and_eq_true] at h
      exact s_ex g h.1 (not_tt h.2)
    · cases h
  | .pass, G, c, W, X, pr, s, h, g, hp, fr => by
    unfold okS at h
    obtain ⟨p, rfl⟩ := isPass_eq h
    exact s_pass
  | .brk, G, c, W, X, pr, s, h, g, hp, fr => by
    unfold okS at h
    obtain ⟨p, rfl⟩ := isBrk_eq h
    exact s_brk
  | .cnt, G, c, W, X, pr, s, h, g, hp, fr => by
    unfold okS at h
    obtain ⟨p, rfl⟩ := isCnt_eq h
    exact s_cnt
theorem sndB : ∀ (b : B) {G : Wd} {c : Ck} {W : WX} {X : Cx} {pr : Bool} {ss : List Stmt}, okB c pr ss b = true → Good c G W X → Pas c X → Fram X → PSs X ss (tB G W pr b)
  | .nil, G, c, W, X, pr, ss, h, g, hp, fr => by
    cases ss with
    | nil => exact b_nil
    | cons _ _ => unfold okB at h; cases h
  | .cons s b, G, c, W, X, pr, ss, h, g, hp, fr => by
    cases ss with
    | nil => unfold okB at h; cases h
    | cons t ss =>
      unfold okB at h
      simp only [Bool.and_eq_true] at h
      exact b_cons (sndS s h.1 g hp fr) (sndB b h.2 g hp fr)
end
end VS
set_option Elab.async false
set_option linter.all false
set_option maxRecDepth 100000
set_option maxHeartbeats 4000000
/-! VTh: a def keeps what its code says. -/
namespace VS
open PySem PySem.Spec PyProof.Rows L2
section
variable {R : Rt} {H H' : Hp} {Rs : Av} {env env' : VE} {σ σ' : L2.St} {ow ow' : Own} {os : List Addr}
theorem ES.ext (s : ES R H Rs env σ ow) (n : Nat) : ES R H Rs (env ++ List.replicate n none) (σ ++ List.replicate n none) ow where
  len := by simp [s.len]
  rep := fun i d e => by
    by_cases hi : i < env.length
    · rw [List.getElem?_append_left hi] at e
      obtain ⟨v, hv, r⟩ := s.rep i d e
      exact ⟨v, by rw [List.getElem?_append_left (by rw [← s.len]; exact hi)]; exact hv, r⟩
    · rw [List.getElem?_append_right (by omega)] at e
      by_cases hj : i - env.length < n
      · rw [List.getElem?_replicate, if_pos hj] at e; cases e
      · rw [List.getElem?_replicate, if_neg hj] at e; cases e
  nil := fun i h => s.nil i fun d e => h d (by
    have hi : i < env.length := (List.getElem?_eq_some_iff.mp e).1
    rw [List.getElem?_append_left hi]; exact e)
  nd := s.nd
  dj := s.dj
  rs := s.rs
  rt := s.rt
/-- what is frozen owns nothing -/
theorem ES.fz_nil {ds : List VS.D} (s : ES R H Rs (ds.map some) σ ow) {i : Nat} (h : ∀ d, ds[i]? = some d → d.isFz = true) : ow i = [] := by
  cases hd : ds[i]? with
  | none => exact s.nil i fun d e => by rw [List.getElem?_map, hd] at e; cases e
  | some d =>
    obtain ⟨v, _, r⟩ := s.rep i d (by rw [List.getElem?_map, hd]; rfl)
    exact r.fz_nil (h d hd)
theorem allFz_get : ∀ {ds : List VS.D}, D.allFz ds = true → ∀ (i : Nat) d, ds[i]? = some d → d.isFz = true
  | [], _, i, d, e => by simp at e
  | d0 :: r, h, 0, d, e => by
    unfold D.allFz at h
    simp only [Bool.and_eq_true] at h
    simp at e; subst e
    exact h.1
  | d0 :: r, h, i + 1, d, e => by
    unfold D.allFz at h
    simp only [Bool.and_eq_true] at h
    exact allFz_get h.2 i d (by simpa using e)
theorem rep_none (n i : Nat) (d : VS.D) : (List.replicate n (none : Option VS.D))[i]? ≠ some (some d) := fun e => by
  rw [List.getElem?_replicate] at e
  split at e <;> cases e
theorem Ow.of0 {a : Addr} : ¬ Ow (fun _ => []) a := fun ⟨_, h⟩ => by cases h
/-- behind the body: nothing is kept but what the first parameter has become -/
theorem po_none {mu : Bool} {vs : List V} (p : Po R Rs true ow H env' σ' ow' os H') (h : mu = false → ∀ i, ow i = []) : Po R Rs mu ow H (List.replicate vs.length none) (vs.map some) (fun _ => []) os H' where
  es := { len := by simp, rep := fun i d e => absurd e (rep_none _ _ _), nil := fun _ _ => rfl, nd := fun _ => by simp, dj := fun i j a h => (by cases h), rs := fun a _ q => Ow.of0 q, rt := p.es.rt }
  new := fun a q => p.new a (q.imp (fun z => absurd z Ow.of0) id)
  fr := fun a o e q => p.fr a o e fun _ z => by
    cases mu with
    | true => exact q rfl z
    | false => obtain ⟨i, z⟩ := z; rw [h rfl i] at z; cases z
  trk := p.trk
  nd := p.nd
theorem po_fin {ds : List VS.D} {vs : List V} {n : Nat} {mu : Bool} (es : ES R H Rs (ds.map some) (vs.map some) ow) (ha : argsOk mu ds = true) (p : Po R Rs true ow H env' σ' ow' os H') (sm : mu = true → σ'[0]? = (vs.map some ++ List.replicate n none)[0]?) :
    ∃ env2 ow2, Po R Rs mu ow H env2 (vs.map some) ow2 os H' ∧ (∀ d', finD mu env' = some d' → env2[0]? = some (some d')) ∧ ∀ a, Ow ow2 a → Ow ow' a := by
  have hno : mu = false → ∀ i, ow i = [] := fun hm i => by
    subst hm
    exact es.fz_nil fun d e => allFz_get (by simpa [argsOk] using ha) i d e
  cases hf : finD mu env' with
  | none => exact ⟨_, _, po_none p hno, fun d' e => (by cases e), fun a q => absurd q Ow.of0⟩
  | some d' =>
    have hm : mu = true := by
      cases mu with
      | true => rfl
      | false => cases hf
    subst hm
    have hg : getV env' 0 = some d' := by
      unfold finD at hf
      rw [if_pos rfl] at hf
      split at hf
      · rename_i e; rw [e]; exact hf
      · rename_i e; rw [e]; exact hf
      · cases hf
    obtain ⟨_, hg⟩ := getV_lt hg
    obtain ⟨v, hv, r⟩ := p.es.rep 0 d' hg
    have hds : ∃ v0 r, vs = v0 :: r := by
      have := es.len
      cases vs with
      | cons v0 r => exact ⟨v0, r, rfl⟩
      | nil =>
        cases ds with
        | nil => simp [argsOk] at ha
        | cons _ _ => simp at this
    obtain ⟨v0, vr, rfl⟩ := hds
    have hs := sm rfl
    rw [hv] at hs
    simp at hs
    subst hs
    have sub : ∀ a, Ow (fun j => if j = 0 then ow' 0 else []) a → Ow ow' a := fun a ⟨j, q⟩ => by
      have q : a ∈ (if j = 0 then ow' 0 else []) := q
      by_cases hj : j = 0
      · rw [if_pos hj] at q; exact ⟨0, q⟩
      · rw [if_neg hj] at q; cases q
    refine ⟨some d' :: List.replicate vr.length none, fun j => if j = 0 then ow' 0 else [], { es := ?_, new := fun a q => p.new a (q.imp (sub a) id), fr := fun a o e q => p.fr a o e q, trk := p.trk, nd := p.nd }, fun d2 e => by simpa using e, sub⟩
    refine { len := by simp, rep := fun i d e => ?_, nil := fun i h => ?_, nd := fun i => ?_, dj := fun i j a q1 q2 => ?_, rs := fun a q w => p.es.rs a q (sub a w), rt := p.es.rt }
    · cases i with
      | succ i => rw [List.getElem?_cons_succ] at e; exact absurd e (rep_none _ _ _)
      | zero =>
        simp at e; subst e
        exact ⟨v, by simp, r.avoid fun a q => .inl (q.imp (sub a) id)⟩
    · by_cases hi : i = 0
      · subst hi; exact absurd rfl (h d')
      · show (if i = 0 then ow' 0 else []) = []
        rw [if_neg hi]
    · show (if i = 0 then ow' 0 else []).Nodup
      by_cases hi : i = 0
      · rw [if_pos hi]; exact p.es.nd 0
      · rw [if_neg hi]; simp
    · by_cases hi : i = 0
      · by_cases hj : j = 0
        · rw [hi, hj]
        · have : a ∈ (if j = 0 then ow' 0 else []) := q2
          rw [if_neg hj] at this; cases this
      · have : a ∈ (if i = 0 then ow' 0 else []) := q1
        rw [if_neg hi] at this; cases this
end
end VS
set_option Elab.async false
set_option linter.all false
set_option maxRecDepth 100000
set_option maxHeartbeats 4000000
/-! VTi: all defs at all levels. -/
namespace VS
open PySem PySem.Spec PyProof.Rows L2
/-- the world in which calls may go n deep -/
def Wd.lv (G : Wd) (n : Nat) : Wd := { G with call := callF G.T n, k := 3 * n + 1 }
/-- the checker's view of a def -/
def ckOf (G : Wd) (scope : Scope) (N : List Str) : Ck := ⟨scope, N, fun _ => true, G.nm, false⟩
/-- a def of the text and its code -/
structure FnSt (G : Wd) (f : Nat) (fn : FnI) : Prop where
  ex : ∃ (name qual : Str) (params : Arguments) (body : List Stmt) (scope : Scope) (dV kV doc pm cdv ct oc : Value) (an od : Option Addr) (osl : Array (Option Value)) (N ps : List Str),
    G.R.K.lookup (G.fa f) = some ⟨oc, od, .func (PySem.W.fnOf name qual params body scope dV kV doc pm an cdv ct), osl⟩ ∧ PySem.W.codeIn G.R.K cdv qual = true ∧ FnScope N ps scope ∧ ps.length = fn.np ∧ N.length = fn.ns ∧ okB (ckOf G scope N) fn.mu body fn.code = true ∧
    ∀ s ∈ fn.shapes, ∃ vd ud, ShOk G.R (PySem.W.fnOf name qual params body scope dV kV doc pm an cdv ct) ps s vd ud
/-- the static facts -/
structure WdS (G : Wd) (P : Program) (w : World) (mg : Str → Option Value) (base : Heap) : Prop where
  exc : G.R.exc = none
  nmk : NmOk G.R G.nm G.fa mg
  cls : InCs G.R
  fn : ∀ f fn, G.T.fns[f]? = some fn → FnSt G f fn
  cl : ∀ c cl, G.T.cls[c]? = some cl → ClOk G c cl
  sub : ∀ c k, excC G.T c = true → excC G.T k = true → PySem.W.exmOne G.R.K (.ref (G.R.ca c)) (.ref (G.R.ca k)) = some (subC G.T c k)
  xm : ∀ c cl, G.T.cls[c]? = some cl → cl.ex = true → cl.fl ≠ [] → XMk G.R.K P w mg base 1 (G.R.ca c) cl.fl
  xf : ∀ c cl, G.T.cls[c]? = some cl → cl.ex = true → XfC G.R.K (G.R.ca c) ∧ ∀ f ∈ cl.fl, PySem.W.findIn G.R.K (.ref (G.R.ca c)) f = some none
section
variable {G : Wd} {P : Program} {w : World} {mg : Str → Option Value} {base : Heap}
theorem XMk.mono {K : PySem.W.Frag} {j k : Nat} {C : Addr} {fl : List Str} (M : XMk K P w mg base j C fl) (h : j ≤ k) : XMk K P w mg base k C fl := by
  obtain ⟨a, b, c, fI, fd, ps, h1, h2, h3, h4⟩ := M
  exact ⟨a, b, c, fI, fd, ps, h1, h2, h3.mono h, h4⟩
theorem WdS.up (S : WdS G P w mg base) (n : Nat) (h : ∀ f fn, G.T.fns[f]? = some fn → FnSnd (G.lv n) P w G.R.K mg base f fn) : WdOk (G.lv n) P w mg base where
  cls := S.cls
  fn := h
  cl := fun c cl e => by
    obtain ⟨a1, a2, a3, a4, a5, a6, a7, a8⟩ := S.cl c cl e
    exact ⟨a1, a2, a3, a4, a5, a6, a7, a8⟩
  sub := S.sub
  xm := fun c cl e1 e2 e3 => (S.xm c cl e1 e2 e3).mono (by show 1 ≤ 3 * n + 1; omega)
  xf := S.xf
theorem fn_ok (S : WdS G P w mg base) (n : Nat) (ih : WdOk (G.lv n) P w mg base) (f : Nat) (fn : FnI) (hf : G.T.fns[f]? = some fn) {name qual : Str} {params : Arguments} {body : List Stmt} {scope : Scope} {dV kV doc pm cdv ct oc : Value} {an od : Option Addr} {osl : Array (Option Value)} {N ps : List Str}
    (lk : G.R.K.lookup (G.fa f) = some ⟨oc, od, .func (PySem.W.fnOf name qual params body scope dV kV doc pm an cdv ct), osl⟩) (hcd : PySem.W.codeIn G.R.K cdv qual = true) (FS : FnScope N ps scope) (hps : ps.length = fn.np) (hN : N.length = fn.ns) (hok : okB (ckOf G scope N) fn.mu body fn.code = true) :
    FnOk P w G.R.K mg base (L2.CX P w) (3 * n + 4) (G.fa f) (PySem.W.fnOf name qual params body scope dV kV doc pm an cdv ct) ps (spC (G.lv (n + 1)) f fn.np fn.mu) := by
  refine fn_of (k := 3 * n + 3) lk hcd FS (fun vs H Q E q => ?_) fun A outer s H vs Q E room q => ?_
  · obtain ⟨ds, ow, Rs, h1, h2, _⟩ := q
    rw [h2, hps]
  · obtain ⟨ds, ow, Rs, h1, h2, es, kk⟩ := q
    have hl : ds.length = fn.np := by have := es.len; simp at this; omega
    refine ⟨tB (G.lv n) (fun cls d _ H => E cls d H) fn.mu fn.code, ?_, ?_⟩
    · refine sndB fn.code (c := ckOf G scope N) hok ⟨rfl, rfl, FS.nd, rfl, rfl, rfl, S.nmk, room.units, fun _ => ⟨rfl, room, takes_of rfl rfl rfl rfl, S.exc, ih⟩, fun z => by cases z⟩ (fun _ => passes_of rfl) ⟨rfl, rfl⟩
    · have e0 := es.ext (fn.ns - fn.np)
      have est : L2.start N vs = vs.map some ++ List.replicate (fn.ns - fn.np) none := by unfold L2.start; rw [hN, h2]
      rw [est]
      refine ⟨_, ow, Rs, e0, ?_⟩
      have kk : match callF G.T (n + 1) f ds with
        | .ok d fin => ∀ v H' ow' os env', Po G.R Rs fn.mu ow H env' (vs.map some) ow' os H' → (∀ d', fin = some d' → env'[0]? = some (some d')) → RP G.R H' (Avd ow' (Tm Rs os)) d v os → Q v H'
        | .ex c xs => ∀ H' dd env' ow', Po G.R Rs fn.mu ow H env' (vs.map some) ow' [] H' → XB G.R H' (Avd ow' Rs) c xs dd → E (.ref (G.R.ca c)) (some dd) H'
        | .no => False := kk
      rw [callF, hf] at kk
      have kk : match (if decide (ds.length = fn.np) && argsOk fn.mu ds then
        match evBl G.T (callF G.T n) fn.code (ds.map some ++ List.replicate (fn.ns - fn.np) none) with
        | .rt d env => CR.ok d (finD fn.mu env)
        | .nx env => CR.ok .non (finD fn.mu env)
        | .ex c xs _ => CR.ex c xs
        | _ => CR.no
      else CR.no) with
        | .ok d fin => ∀ v H' ow' os env', Po G.R Rs fn.mu ow H env' (vs.map some) ow' os H' → (∀ d', fin = some d' → env'[0]? = some (some d')) → RP G.R H' (Avd ow' (Tm Rs os)) d v os → Q v H'
        | .ex c xs => ∀ H' dd env' ow', Po G.R Rs fn.mu ow H env' (vs.map some) ow' [] H' → XB G.R H' (Avd ow' Rs) c xs dd → E (.ref (G.R.ca c)) (some dd) H'
        | .no => False := kk
      rw [if_pos (by rw [decide_eq_true hl, h1]; rfl)] at kk
      show KS G.R _ fn.mu Rs ow H _ (evBl G.T (callF G.T n) fn.code (ds.map some ++ List.replicate (fn.ns - fn.np) none)) _
      cases hr : evBl G.T (callF G.T n) fn.code (ds.map some ++ List.replicate (fn.ns - fn.np) none) with
      | nx env' =>
        rw [hr] at kk
        intro σ' ow' H' po sm
        obtain ⟨env2, ow2, p2, q2, sub⟩ := po_fin es h1 po sm
        exact kk .non H' ow2 [] env2 p2 q2 (by unfold RP; exact ⟨rfl, rfl⟩)
      | rt d env' =>
        rw [hr] at kk
        intro v σ' ow' os H' po r sm
        obtain ⟨env2, ow2, p2, q2, sub⟩ := po_fin es h1 po sm
        exact kk v H' ow2 os env2 p2 q2 (r.avoid fun a q => .inl (q.imp (sub a) id))
      | ex c xs env' =>
        rw [hr] at kk
        intro σ' ow' H' dd po xb sm
        exact kk H' dd _ _ (po_none po fun hm i => es.fz_nil fun d e => allFz_get (by rw [hm] at h1; simpa [argsOk] using h1) i d e) (xb.less fun a q => q.imp (fun z => absurd z Ow.of0) id)
      | bk env' => rw [hr] at kk; exact kk.elim
      | ct env' => rw [hr] at kk; exact kk.elim
      | no => rw [hr] at kk; exact kk.elim
theorem fn_up (S : WdS G P w mg base) (n : Nat) (ih : WdOk (G.lv n) P w mg base) (f : Nat) (fn : FnI) (hf : G.T.fns[f]? = some fn) : FnSnd (G.lv (n + 1)) P w G.R.K mg base f fn := by
  obtain ⟨name, qual, params, body, scope, dV, kV, doc, pm, cdv, ct, oc, an, od, osl, N, ps, lk, hcd, FS, hps, hN, hok, hsh⟩ := (S.fn f fn hf).ex
  exact ⟨_, ps, hps, fn_ok S n ih f fn hf lk hcd FS hps hN hok, hsh⟩
theorem fn_no (S : WdS G P w mg base) (f : Nat) (fn : FnI) (hf : G.T.fns[f]? = some fn) : FnSnd (G.lv 0) P w G.R.K mg base f fn := by
  obtain ⟨name, qual, params, body, scope, dV, kV, doc, pm, cdv, ct, oc, an, od, osl, N, ps, lk, hcd, FS, hps, hN, hok, hsh⟩ := (S.fn f fn hf).ex
  refine ⟨_, ps, hps, ⟨fun vs H Q E q => ?_, fun A outer s H args us vs Q E hr e0 hb r q => ?_⟩, hsh⟩
  · obtain ⟨ds, ow, Rs, h1, h2, _⟩ := q
    rw [h2, hps]
  · obtain ⟨ds, ow, Rs, h1, h2, es, kk⟩ := q
    exact False.elim kk
/-- THE RULE: at every depth the world does what its code says -/
theorem WdS.all (S : WdS G P w mg base) : ∀ n, WdOk (G.lv n) P w mg base
  | 0 => S.up 0 fun f fn hf => fn_no S f fn hf
  | n + 1 => S.up (n + 1) fun f fn hf => fn_up S n (S.all n) f fn hf
end
end VS
set_option Elab.async false
set_option linter.all false
set_option maxRecDepth 100000
set_option maxHeartbeats 4000000
/-! VTj: the static facts by looks at what the top leaves. -/
namespace VS
open PySem PySem.Spec PyProof.Rows L2

/-- where a def stands -/
inductive At where
  | glo (x : Str) | meth (C m : Str) | prop (C m : Str)
def At.ad (K : PySem.W.Frag) : At → Addr
  | .glo x => He.ga K x
  | .meth C m => He.ma K (He.ga K C) m
  | .prop C m => match PySem.W.recIn K (He.ma K (He.ga K C) m) "property" with
    | some (.ref g :: _) => g
    | _ => 0
def defName (s : Stmt) : Str := match s with
  | .FunctionDef n _ _ _ _ _ _ _ _ _ => n
  | _ => Str.empty
/-- a def of the text -/
structure Df where
  loc : At
  st : Stmt
  qual : Str
  kwd : List (Str × He.Dv) := []
def Df.kws (K : PySem.W.Frag) (d : Df) : List (Str × V) := d.kwd.map fun q => (q.1, q.2.v K)
def fnA (K : PySem.W.Frag) (a : Addr) : He.FnW := match K.lookup a with
  | some ⟨_, _, .func g, _⟩ => some (g.name, g.qualname, g.params, g.body, g.scope, g.globals, g.closure, g.builtins)
  | _ => none
def Df.val (d : Df) : He.FnW := some (defName d.st, d.qual, defArgs d.st, .stmts (defBody d.st), defScope d.st, mainGlobals, [], builtinsNs)
def fnB (K : PySem.W.Frag) (a : Addr) (qual : Str) (ks : List (Str × V)) : Bool := match K.lookup a with
  | some ⟨_, _, .func g, _⟩ => PySem.W.codeIn K g.code qual && (He.dflB K g.defaults [] && He.kwdB K g.kwdefaults ks)
  | _ => false
def Df.ok (K : PySem.W.Frag) (d : Df) : Bool := PySem.W.keepIn K (.ref (d.loc.ad K)) && fnB K (d.loc.ad K) d.qual (d.kws K)
abbrev Df.Fun (K : PySem.W.Frag) (d : Df) (a : Addr) (g : FuncData) : Prop := FunD K (defName d.st) d.qual (defArgs d.st) (defBody d.st) (defScope d.st) [] (d.kws K) a g
theorem Df.fun_of {K : PySem.W.Frag} {d : Df} (e : fnA K (d.loc.ad K) = d.val) (c : d.ok K = true) : ∃ g, d.Fun K (d.loc.ad K) g := by
  unfold Df.ok at c
  rw [Bool.and_eq_true] at c
  obtain ⟨c0, c⟩ := c
  unfold Df.Fun
  revert e c c0
  generalize d.loc.ad K = a
  intro e c0 c
  unfold fnA at e
  unfold fnB at c
  split at e
  · rename_i oc od g sl q
    rw [q] at c
    simp only [Bool.and_eq_true] at c
    obtain ⟨c1, c2, c3⟩ := c
    simp only [Df.val, Option.some.injEq, Prod.mk.injEq] at e
    obtain ⟨n1, n2, n3, n4, n5, n6, n7, n8, n9, n10, n11, n12, n13, n14, n15⟩ := g
    simp only at e c1 c2 c3
    obtain ⟨rfl, rfl, rfl, rfl, rfl, rfl, rfl, rfl⟩ := e
    exact ⟨_, ⟨oc, od, n8, n9, n10, n11, n12, n13, n14, sl, rfl, q, c1, He.dflB_ok c2, He.kwdB_ok c3⟩, c0⟩
  · cases e

/-- a keyword-only default that is an object -/
def kwdAt (l : At) (x : Str) (K : PySem.W.Frag) : Addr := match K.lookup (l.ad K) with
  | some ⟨_, _, .func g, _⟩ => (match g.kwdefaults with
    | .ref D => (match PySem.W.nsIn K D x with
      | some (some (.ref a)) => a
      | _ => 0)
    | _ => 0)
  | _ => 0
/-- a tuple of numbers of the written part -/
def tpB (K : PySem.W.Frag) (a : Addr) (ns : List Int) : Bool := match K.lookup a with
  | some ⟨.type t, _, .seq its _, _⟩ => decide (t = "tuple") && (decide (its.size ≤ sizeLine) && He.relAll (ns.map V.int) its.toList)
  | _ => false
theorem rps_ints {R : Rt} {H : Hp} {A : Av} : ∀ ns : List Int, RPs R H A (ns.map D.int) (ns.map V.int) []
  | [] => by unfold RPs; exact ⟨rfl, rfl⟩
  | n :: r => by
    simp only [List.map_cons]
    unfold RPs
    exact ⟨_, _, [], [], rfl, rfl, by unfold RP; exact ⟨rfl, rfl⟩, rps_ints r⟩
theorem tpB_ok {R : Rt} {a : Addr} {ns : List Int} (h : tpB R.K a ns = true) (H : Hp) (A : Av) : RP R H A (.tup (ns.map D.int)) (.ref a) [] := by
  unfold tpB at h
  split at h
  · rename_i t od its n sl q
    simp only [Bool.and_eq_true] at h
    obtain ⟨h1, h2, h3⟩ := h
    unfold RP
    exact ⟨rfl, a, _, rfl, .inr ⟨_, its, n, q, congrArg Value.type (of_decide_eq_true h1), rfl, of_decide_eq_true h2, He.relAll_ok h3⟩, rps_ints ns⟩
  · cases h
/-- a program's text with its code -/
structure Prg where
  T : Tab
  nm : Nms
  dfs : List Df
  cn : List Str
  xi : List Df
  tps : List ((PySem.W.Frag → Addr) × List Int) := []
def Prg.R (p : Prg) (K : PySem.W.Frag) : Rt := ⟨K, fun c => He.ga K (p.cn.getD c Str.empty), fun c => ((p.T.cls[c]?).map (·.fl)).getD [], p.nm.nc, none⟩
def Prg.fa (p : Prg) (K : PySem.W.Frag) (f : Nat) : Addr := ((p.dfs[f]?).map (·.loc.ad K)).getD 0
def Prg.G (p : Prg) (K : PySem.W.Frag) : Wd := ⟨p.R K, p.T, p.nm, p.fa K, callF p.T 0, 0⟩

def eqO (a b : Option (Option Value)) : Bool := decide (a = b)
def eqB (a : Option Bool) (b : Bool) : Bool := decide (a = some b)
/-! ### Booleans -/
def allIx {α : Type} (f : Nat → α → Bool) : Nat → List α → Bool
  | _, [] => true
  | i, a :: r => f i a && allIx f (i + 1) r
theorem allIx_ok {α : Type} {f : Nat → α → Bool} : ∀ {l : List α} {n : Nat}, allIx f n l = true → ∀ i a, l[i]? = some a → f (n + i) a = true
  | [], _, _, i, a, e => by simp at e
  | b :: r, n, h, 0, a, e => by
    unfold allIx at h
    simp only [Bool.and_eq_true] at h
    simp at e; subst e
    exact h.1
  | b :: r, n, h, i + 1, a, e => by
    unfold allIx at h
    simp only [Bool.and_eq_true] at h
    have := allIx_ok h.2 i a (by simpa using e)
    rwa [show n + 1 + i = n + (i + 1) by omega] at this
def inCB (K : PySem.W.Frag) (ca : Nat → Addr) (nc c : Nat) : Bool :=
  ((PySem.W.plainGet K (ca c) Str.empty && (PySem.W.hasDictIn K (ca c) && (PySem.W.plainOver K (ca c) && eqO (PySem.W.findIn K (.ref (ca c)) "__setattr__") (some (some (.builtin "object.__setattr__")))))) &&
  (eqO (PySem.W.findIn K (.ref (ca c)) "__class__") (some (some (.builtin "object.__class__"))) && (eqO (PySem.W.specialIn K (.builtin "object.__class__") "__get__") (some (some (.builtin "getset_descriptor.__get__"))) &&
  (eqB (PySem.W.takesIn K (.builtin "object.__class__")) true && eqB (PySem.W.mroIn K (ca c) (.type "object")) true)))) &&
  (((["int", "bool", "list", "tuple", "str"] : List String).all fun n => eqB (PySem.W.kitOne K (.ref (ca c)) (.type n)) false) && (((List.range nc).all fun k => eqB (PySem.W.kitOne K (.ref (ca c)) (.ref (ca k))) (decide (c = k))) &&
  (["int", "bool", "list", "tuple", "str", "NoneType"] : List String).all fun t => eqB (PySem.W.kitOne K (.type t) (.ref (ca c))) false))
theorem inCB_ok {R : Rt} {c : Nat} (h : inCB R.K R.ca R.nc c = true) : InC R c := by
  unfold inCB eqO eqB at h
  simp only [Bool.and_eq_true, decide_eq_true_eq, List.all_eq_true, List.mem_range] at h
  obtain ⟨⟨⟨h1, h2, h3, h4⟩, h5, h6, h7, h8⟩, h9, h10, h11⟩ := h
  exact ⟨⟨h1, h2, h3, h4⟩, h5, h6, h7, h8, h9, h10, h11⟩
def propB (K : PySem.W.Frag) (C : Addr) (f : Str) (g : Addr) : Bool := eqO (PySem.W.findIn K (.ref C) f) (some (some (.ref (He.ma K C f)))) && (eqO (PySem.W.specialIn K (.ref (He.ma K C f)) "__get__") (some (some (.builtin "property.__get__"))) &&
  (eqB (PySem.W.takesIn K (.ref (He.ma K C f))) true && (match PySem.W.recIn K (He.ma K C f) "property" with
    | some (v :: _) => decide (v = .ref g)
    | _ => false)))
theorem propB_ok {K : PySem.W.Frag} {C g : Addr} {f : Str} (h : propB K C f g = true) : PropOf K C f (He.ma K C f) g := by
  unfold propB eqO eqB at h
  simp only [Bool.and_eq_true, decide_eq_true_eq] at h
  obtain ⟨h1, h2, h3, h4⟩ := h
  refine ⟨h1, h2, h3, ?_⟩
  split at h4
  · rename_i v r e
    exact ⟨r, by rw [e, of_decide_eq_true h4]⟩
  · cases h4
def clB (K : PySem.W.Frag) (ca fa : Nat → Addr) (nc c : Nat) (cl : ClsI) : Bool :=
  (decide ((cl.ex = false) ↔ c < nc) && (decide cl.fl.Nodup && decide (cl.fl.length ≤ 900))) && (cl.ex || ((cl.fl.all fun f => eqO (PySem.W.findIn K (.ref (ca c)) f) (some none)) &&
  ((match cl.init with
    | none => true
    | some g => PySem.W.makesIn K (ca c) && (eqO (PySem.W.findIn K (.ref (ca c)) "__init__") (some (some (.ref (fa g)))) && (PySem.W.isFn K (.ref (fa g)) && PySem.W.keepIn K (.ref (ca c))))) &&
  ((cl.props.all fun q => propB K (ca c) q.1 (fa q.2)) && (match cl.item with
    | none => true
    | some g => eqO (PySem.W.findIn K (.ref (ca c)) "__getitem__") (some (some (.ref (fa g)))) && (PySem.W.fnIn K (fa g) && PySem.W.isFn K (.ref (fa g))))))))
theorem findF_mem {x : Str} {g : Nat} : ∀ {l : List (Str × Nat)}, findF x l = some g → (x, g) ∈ l
  | [], h => by cases h
  | (y, n) :: r, h => by
    unfold findF at h
    split at h
    · rename_i e; cases h; subst e; exact List.mem_cons_self
    · exact List.mem_cons_of_mem _ (findF_mem h)
theorem clB_ok {G : Wd} {c : Nat} {cl : ClsI} (hf : G.R.fl c = cl.fl) (h : clB G.R.K G.R.ca G.fa G.R.nc c cl = true) : ClOk G c cl := by
  unfold clB eqO at h
  rw [Bool.and_eq_true] at h
  obtain ⟨h0, h⟩ := h
  simp only [Bool.and_eq_true, decide_eq_true_eq] at h0
  obtain ⟨h1, h2, h3⟩ := h0
  have key : cl.ex = false → _ := fun e => by rw [e, Bool.false_or] at h; exact h
  refine ⟨hf, h1, h2, h3, fun e f hfl => ?_, fun e g hg => ?_, fun e f g hp => ?_, fun e g hi => ?_⟩
  all_goals
    have k := key e
    simp only [Bool.and_eq_true] at k
    obtain ⟨k1, k2, k3, k4⟩ := k
  · have := List.all_eq_true.mp k1 f hfl
    exact of_decide_eq_true (p := PySem.W.findIn G.R.K (.ref (G.R.ca c)) f = some none) this
  · rw [hg] at k2
    simp only [Bool.and_eq_true, decide_eq_true_eq] at k2
    obtain ⟨a1, a2, a3, a4⟩ := k2
    exact ⟨a1, a2, a3, a4⟩
  · exact ⟨_, propB_ok (List.all_eq_true.mp k3 (f, g) (findF_mem hp))⟩
  · rw [hi] at k4
    simp only [Bool.and_eq_true, decide_eq_true_eq] at k4
    exact k4
/-! ### exceptions -/
def exB (K : PySem.W.Frag) (C : Addr) : Bool := (match K.lookup C with
  | some ⟨.type t, _, .cls cd, sl⟩ => decide (t = "type") && (match cd.mro, sl.toList with
    | .ref c' :: bm, [_, _, _, _, some (.builtin n), _] => decide (c' = C) && (decide (n = "Exception.__new__") && (!cd.hasDel && (cd.hasDict && exMb bm)))
    | _, _ => false)
  | _ => false) && (eqO (PySem.W.findIn K (.ref C) "__setattr__") (some (some (.builtin "object.__setattr__"))) && (eqB (PySem.W.subIn K (.ref C) (.type "BaseException")) true && (decide (PySem.W.typeIn K (.ref C) = some (.type "type")) && PySem.W.keepIn K (.ref C))))
theorem exB_ok {K : PySem.W.Frag} {C : Addr} (h : exB K C = true) : ExC K C := by
  unfold exB eqO eqB at h
  rw [Bool.and_eq_true] at h
  obtain ⟨h, h2⟩ := h
  simp only [Bool.and_eq_true, decide_eq_true_eq] at h2
  obtain ⟨a1, a2, a3, a4⟩ := h2
  refine ⟨?_, a1, a2, a3, a4⟩
  split at h
  · rename_i t dd cd sl q
    rw [Bool.and_eq_true] at h
    obtain ⟨ht, h⟩ := h
    split at h
    · rename_i c' bm k0 k1 k2 k3 n k5 hm hs
      simp only [Bool.and_eq_true, decide_eq_true_eq, Bool.not_eq_true'] at h
      obtain ⟨e1, e2, e3, e4, e5⟩ := h
      have ht := of_decide_eq_true ht
      subst e1 e2 ht
      obtain ⟨nm, bs, mro, ns, qn, hd, sn, sb, ab, col, del⟩ := cd
      dsimp only at hm e3 e4
      subst hm e3 e4
      obtain ⟨l⟩ := sl
      dsimp only at hs
      subst hs
      exact ⟨nm, qn, ns, bs, bm, sn, sb, ab, col, dd, k0, k1, k2, k3, k5, q, exMb_ok e5⟩
    · cases h
  · cases h
/-- an exception class with fields: its __init__ at d -/
def xcB (K : PySem.W.Frag) (C : Addr) (fl : List Str) (d : Df) : Bool := exB K C && (eqO (PySem.W.findIn K (.ref C) "__init__") (some (some (.ref (d.loc.ad K)))) && decide (PySem.W.typeIn K (.ref (d.loc.ad K)) = some (.type "function")))
theorem xmk_of {K : PySem.W.Frag} {P : Program} {w : World} {mg : Str → Option Value} {base : Heap} {C : Addr} {fl : List Str} {d : Df} {g : FuncData} {ps : List Str} (h : xcB K C fl d = true) (F : d.Fun K (d.loc.ad K) g) (S : FnScope ps ps (defScope d.st)) (hps : ps.length = fl.length + 1) (hne : fl ≠ [])
    (nd : fl.Nodup) (few : fl.length ≤ 900) (hno : ∀ f ∈ fl, PySem.W.findIn K (.ref C) f = some none) (ok : okIni ps (defScope d.st) (defBody d.st) fl 1 = true)
    (hb : ∀ (kV doc pm : Value) (an : Option Addr) (cdv ct : Value) (us : List Value), us.length = ps.length → bindArgs (PySem.W.fnOf (defName d.st) d.qual (defArgs d.st) (defBody d.st) (defScope d.st) .none kV doc pm an cdv ct) ⟨us, []⟩ = pure (ps.zip us)) : XMk K P w mg base 1 C fl := by
  unfold xcB eqO at h
  simp only [Bool.and_eq_true, decide_eq_true_eq] at h
  obtain ⟨h1, h2, h3⟩ := h
  have T := exB_ok h1
  refine ⟨T, nd, few, _, g, ps, h2, h3, F.ok (k := 0) S (fun vs H Q E h => ?_) (fun cdv A outer s H vs Q E hr h => ⟨tIni K fl 1, ini_snd rfl fl _ 1 ok, ?_⟩), F.bindsN hb⟩
  · obtain ⟨a, ws, rfl, hw, _⟩ := h
    rw [List.length_cons, hw, hps]
  · obtain ⟨a, ws, rfl, hw, ha, q⟩ := h
    have es : L2.start ps (V.ref a :: ws) = (V.ref a :: ws).map some := by
      unfold L2.start
      rw [hps, List.length_cons, hw]; simp
    rw [es]
    refine ini_new T hne hw hno few rfl (fun j v hj => ?_) ha fun dd hd hne' => q dd hd hne'
    rw [List.getElem?_map, Nat.add_comm, List.getElem?_cons_succ, hj]; rfl

/-! ### forms of call -/
section
variable {R : Rt} {x qual : Str} {params : Arguments} {body : List Stmt} {scope : Scope} {kws : List (Str × V)} {f : Addr} {fd : FuncData} {ps : List Str} {s : Shp}
def noDfl : List Srs → Bool
  | [] => true
  | .dfl _ :: _ => false
  | _ :: r => noDfl r
theorem noDfl_ok : ∀ {l : List Srs}, noDfl l = true → ∀ (i : Nat) d, l[i]? ≠ some (.dfl d)
  | [], _, i, d => by simp
  | .dfl _ :: _, h, _, _ => by cases h
  | .pos j :: r, h, 0, d => by simp
  | .kw j :: r, h, 0, d => by simp
  | .pos j :: r, h, i + 1, d => by simpa using noDfl_ok (l := r) h i d
  | .kw j :: r, h, i + 1, d => by simpa using noDfl_ok (l := r) h i d
theorem sh_of (F : FunD R.K x qual params body scope [] kws f fd) (hl : s.src.length = ps.length) (hd : noDfl s.src = true)
    (h : ∀ (kV doc pm : Value) (an : Option Addr) (cdv ct : Value) (us ws : List Value), us.length = s.n → ws.length = s.ks.length → bindArgs (PySem.W.fnOf x qual params body scope .none kV doc pm an cdv ct) ⟨us, s.ks.zip ws⟩ = pure (ps.zip (pickX .none s.src [] us ws))) :
    ∃ vd ud, ShOk R fd ps s vd ud := by
  obtain ⟨oc, od, dV, kV, doc, pm, an, cdv, ct, osl, rfl, lk, hcd, hD, hK⟩ := F.ex
  rcases hD with ⟨_, rfl⟩ | ⟨e, _⟩
  · exact ⟨[], [], .nil, fun i d e => absurd e (noDfl_ok hd i d), fun s₀ us ws _ l1 l2 => .of_eq (h kV doc pm an cdv ct us ws l1 l2), hl⟩
  · exact absurd rfl e
theorem sh_kw (F : FunD R.K x qual params body scope [] kws f fd) (hl : s.src.length = ps.length) (ms : List (Str × V)) (hk : kws ≠ []) (hms : ∀ q ∈ ms, q ∈ kws) (vd : List V) (ud : List Value → List Value) (hv : ∀ mv, Vals (ms.map (·.2)) mv → Vals vd (ud mv))
    (hd : ∀ (i : Nat) d, s.src[i]? = some (.dfl d) → ∃ v, vd[i]? = some v ∧ ∀ H A, RP R H A d v [])
    (h : ∀ (D : Addr) (doc pm : Value) (an : Option Addr) (cdv ct : Value) (us mv ws : List Value), us.length = s.n → mv.length = ms.length → ws.length = s.ks.length →
      KwChain D ((ms.map (·.1)).zip mv) (bindArgs (PySem.W.fnOf x qual params body scope .none (.ref D) doc pm an cdv ct) ⟨us, s.ks.zip ws⟩) (ps.zip (pickX .none s.src (ud mv) us ws))) :
    ∃ vd ud, ShOk R fd ps s vd ud := by
  obtain ⟨oc, od, dV, kV, doc, pm, an, cdv, ct, osl, rfl, lk, hcd, hD, hK⟩ := F.ex
  rcases hD with ⟨_, rfl⟩ | ⟨e, _⟩
  · rcases hK with e | ⟨D, rfl, hq⟩
    · exact absurd e hk
    · obtain ⟨mv, l3, rk, hks⟩ := kwd_vals (ms := ms) fun q hm => hq q (hms q hm)
      exact ⟨vd, ud mv, hv mv rk, hd, fun s₀ us ws X l1 l2 => L2.BindsTo.of_looks fun M => KwChain.looks X hks (h D doc pm an cdv ct us mv ws l1 l3 l2), hl⟩
  · exact absurd rfl e
end
/-! ### a def of the text -/
theorem fnSt_of {G : Wd} {f : Nat} {fn : FnI} {d : Df} {g : FuncData} {N ps : List Str} (F : d.Fun G.R.K (G.fa f) g) (S : FnScope N ps (defScope d.st)) (hps : ps.length = fn.np) (hN : N.length = fn.ns)
    (hok : okB ⟨defScope d.st, N, fun _ => true, G.nm, false⟩ fn.mu (defBody d.st) fn.code = true) (hsh : ∀ s ∈ fn.shapes, ∃ vd ud, ShOk G.R g ps s vd ud) : FnSt G f fn := by
  obtain ⟨oc, od, dV, kV, doc, pm, an, cdv, ct, osl, rfl, lk, hcd, hD, hK⟩ := F.ex
  exact ⟨_, _, _, _, _, dV, kV, doc, pm, cdv, ct, oc, an, od, osl, N, ps, lk, hcd, S, hps, hN, hok, hsh⟩
/-! ### all of it -/
def gfB (p : Prg) (K : PySem.W.Frag) : Bool := allIx (fun f x => match x with
  | none => true
  | some x => eqO (PySem.W.nsIn K mainGlobals x) (some (some (.ref (p.fa K f)))) && PySem.W.keepIn K (.ref (p.fa K f))) 0 p.nm.gf
def gcB (p : Prg) (K : PySem.W.Frag) : Bool := allIx (fun c x => match x with
  | none => true
  | some x => eqO (PySem.W.nsIn K mainGlobals x) (some (some (.ref ((p.R K).ca c)))) && PySem.W.keepIn K (.ref ((p.R K).ca c))) 0 p.nm.gc
def bnB (p : Prg) (K : PySem.W.Frag) : Bool := p.nm.bn.all fun x => eqO (PySem.W.nsIn K mainGlobals x) (some none)
def exs (T : Tab) : List Nat := (List.range T.cls.length).filter fun c => excC T c
def subB (p : Prg) (K : PySem.W.Frag) : Bool := (exs p.T).all fun c => (exs p.T).all fun k => eqB (PySem.W.exmOne K (.ref ((p.R K).ca c)) (.ref ((p.R K).ca k))) (subC p.T c k)
def xfsB (p : Prg) (K : PySem.W.Frag) : Bool := allIx (fun c (cl : ClsI) => !cl.ex || (xfB K ((p.R K).ca c) && cl.fl.all fun f => eqO (PySem.W.findIn K (.ref ((p.R K).ca c)) f) (some none))) 0 p.T.cls
/-- the exceptions' __init__s, class by class -/
def xisB (p : Prg) (K : PySem.W.Frag) (xs : List (Nat × Df)) : Bool := xs.all fun q => match p.T.cls[q.1]? with
  | some cl => xcB K ((p.R K).ca q.1) cl.fl q.2
  | none => false
def Prg.ok (p : Prg) (K : PySem.W.Frag) : Bool := (p.tps.all fun t => tpB K (t.1 K) t.2) && (((gfB p K && (gcB p K && bnB p K)) && ((List.range p.nm.nc).all (fun c => inCB K (p.R K).ca p.nm.nc c) && allIx (fun c cl => clB K (p.R K).ca (p.fa K) p.nm.nc c cl) 0 p.T.cls)) && (subB p K && xfsB p K))
theorem excC_lt {T : Tab} {c : Nat} (h : excC T c = true) : c ∈ exs T := by
  unfold exs
  rw [List.mem_filter]
  refine ⟨List.mem_range.mpr ?_, h⟩
  unfold excC at h
  split at h
  · rename_i cl e; exact (List.getElem?_eq_some_iff.mp e).1
  · cases h
theorem Prg.wds {p : Prg} {K : PySem.W.Frag} {P : Program} {w : World} {mg : Str → Option Value} {base h : Heap} (X : K.In h) (Gn : h.Ns mainGlobals mg) (c : p.ok K = true) (hf : ∀ f fn, p.T.fns[f]? = some fn → FnSt (p.G K) f fn)
    (hx : ∀ c cl, p.T.cls[c]? = some cl → cl.ex = true → cl.fl ≠ [] → XMk K P w mg base 1 ((p.R K).ca c) cl.fl) : WdS (p.G K) P w mg base := by
  unfold Prg.ok at c
  simp only [Bool.and_eq_true] at c
  obtain ⟨_, ⟨⟨c1, c2, c3⟩, c4, c5⟩, c6, c7⟩ := c
  have xf : ∀ c cl, p.T.cls[c]? = some cl → cl.ex = true → XfC K ((p.R K).ca c) ∧ ∀ f ∈ cl.fl, PySem.W.findIn K (.ref ((p.R K).ca c)) f = some none := fun c cl e hx => by
    have := allIx_ok c7 c cl e
    rw [Nat.zero_add, hx, Bool.not_true, Bool.false_or, Bool.and_eq_true] at this
    exact ⟨xfB_ok this.1, fun f hf => of_decide_eq_true (List.all_eq_true.mp this.2 f hf)⟩
  refine ⟨rfl, ⟨fun f x e => ?_, fun k x e => ?_, fun x hx => ?_, rfl⟩, fun k hk => inCB_ok (List.all_eq_true.mp c4 k (List.mem_range.mpr hk)), hf, fun k cl e => ?_, fun k j e1 e2 => ?_, hx, xf⟩
  · have := allIx_ok c1 f _ e
    simp only [Nat.zero_add, Bool.and_eq_true] at this
    exact ⟨PySem.W.mg_of X Gn (of_decide_eq_true this.1), this.2⟩
  · have := allIx_ok c2 k _ e
    simp only [Nat.zero_add, Bool.and_eq_true] at this
    exact ⟨PySem.W.mg_of X Gn (of_decide_eq_true this.1), this.2⟩
  · exact PySem.W.mg_none_of X Gn (of_decide_eq_true (List.all_eq_true.mp c3 x hx))
  · have := allIx_ok c5 k cl e
    rw [Nat.zero_add] at this
    exact clB_ok (G := p.G K) (by have e : p.T.cls[k]? = some cl := e; show ((p.T.cls[k]?).map (·.fl)).getD [] = cl.fl; rw [e]; rfl) this
  · exact of_decide_eq_true (List.all_eq_true.mp (List.all_eq_true.mp c6 k (excC_lt e1)) j (excC_lt e2))
/-! ### the Hook -/
/-- what an object of the top names: a dict's values, a def's code and keyword defaults, a class's namespace, a property's getter -/
def refsC (o : Obj) : List Addr := match o.data with
  | .dict es _ => es.toList.flatMap fun e => He.refV e.val
  | .func fd => He.refV fd.code ++ He.refV fd.kwdefaults
  | .cls cd => [cd.ns]
  | .fields vs => (match o.cls with
    | .type "property" => (match vs.toList with
      | v :: _ => He.refV v
      | _ => [])
    | _ => [])
  | _ => []
def nextC (g : Addr → Option Obj) (as : List Addr) : List Addr := as.flatMap fun a => match g a with
  | some o => refsC o
  | none => []
def frc (as : List Addr) (k : List Addr → List Addr) : List Addr := match as with
  | [] => k []
  | a :: r => frc r fun r => k (a :: r)
def lvC (g : Addr → Option Obj) : Nat → List Addr → List Addr
  | 0, as => as
  | n + 1, as => as ++ lvC g n (nextC g as)
def asC (g : Addr → Option Obj) (n : Nat) : List Addr := lvC g n [mainGlobals]
def Prg.all (p : Prg) : List Df := p.dfs ++ p.xi
def Prg.obs (p : Prg) (xs : List (Nat × Df)) (K : PySem.W.Frag) : Bool × List He.FnW := ((p.ok K && (xisB p K xs && p.all.all fun d => d.ok K)), p.all.map fun d => fnA K (d.loc.ad K))
def Prg.val (p : Prg) : Bool × List He.FnW := (true, p.all.map Df.val)
def Prg.hook (p : Prg) (xs : List (Nat × Df)) (n : Nat) : PySem.W.Hook where
  α := Bool × List He.FnW
  obs := fun s => p.obs xs (He.frG s.heap.get? (asC s.heap.get? n))
  val := fun _ => p.val
  says := fun _ h => ∃ K : PySem.W.Frag, K.In h ∧ p.obs xs K = p.val
  of := fun _ _ e => ⟨_, He.frG_in, e⟩
  keeps := fun _ _ _ ⟨K, hK, c⟩ k => ⟨K, hK.keeps k, c⟩
def Prg.ob (p : Prg) (xs : List (Nat × Df)) (n : Nat) (s : PySem.W.SharedT) : Bool × List He.FnW := p.obs xs (He.frG (HandSHeadRun.getT s) (asC (HandSHeadRun.getT s) n))
theorem Prg.ob_eq (p : Prg) (xs : List (Nat × Df)) (n : Nat) (s : PySem.W.SharedT) : p.ob xs n s = (p.hook xs n).obs s.abs := by
  have e : HandSHeadRun.getT s = s.abs.heap.get? := funext (HandSHeadRun.getT_eq s)
  unfold Prg.ob
  rw [e]; rfl
section
variable {p : Prg} {xs : List (Nat × Df)} {K : PySem.W.Frag}
theorem Prg.says_ok (c : p.obs xs K = p.val) : p.ok K = true := by
  have := congrArg Prod.fst c
  simp only [Prg.obs, Prg.val, Bool.and_eq_true] at this
  exact this.1
theorem Prg.says_tp (c : p.obs xs K = p.val) {t : (PySem.W.Frag → Addr) × List Int} (ht : t ∈ p.tps) (H : Hp) (A : Av) : RP (p.R K) H A (.tup (t.2.map D.int)) (.ref (t.1 K)) [] := by
  have := says_ok c
  unfold Prg.ok at this
  rw [Bool.and_eq_true] at this
  exact tpB_ok (R := p.R K) (List.all_eq_true.mp this.1 t ht) H A
theorem Prg.says_xi (c : p.obs xs K = p.val) {q : Nat × Df} (hq : q ∈ xs) {cl : ClsI} (e : p.T.cls[q.1]? = some cl) : xcB K ((p.R K).ca q.1) cl.fl q.2 = true := by
  have := congrArg Prod.fst c
  simp only [Prg.obs, Prg.val, Bool.and_eq_true] at this
  have := List.all_eq_true.mp this.2.1 q hq
  rw [e] at this
  exact this
theorem Prg.says_fn (c : p.obs xs K = p.val) (i : Nat) {d : Df} (e : p.all[i]? = some d) : ∃ g, d.Fun K (d.loc.ad K) g := by
  have h1 := congrArg Prod.fst c
  have h2 := congrArg Prod.snd c
  simp only [Prg.obs, Prg.val, Bool.and_eq_true] at h1 h2
  have h3 := congrArg (fun l => l[i]?) h2
  simp only [List.getElem?_map, e, Option.map_some, Option.some.injEq] at h3
  exact Df.fun_of h3 (List.all_eq_true.mp h1.2.2 d (List.mem_of_getElem? e))
end
/-! ### the law -/
theorem cx_no {P : Program} {w : World} {H : Hp} {s : Shared} {e : Value} {s' : Shared} (h : L2.CX P w [] H s (fun _ _ _ => False) e s') : False := by
  obtain ⟨a, B, H', cls, d, _, _, _, _, _, _, _, h⟩ := h
  exact h
theorem es_law {R : Rt} {H : Hp} {a : Addr} {ns : List Int} (h : SqL R.K H a (ns.map V.int)) : ES R H (fun _ => False) ([D.lst false (ns.map D.int)].map some) ([V.ref a].map some) (fun _ => []) where
  len := rfl
  rep := fun i d e => by
    cases i with
    | succ i => simp at e
    | zero =>
      simp at e; subst e
      refine ⟨_, rfl, ?_⟩
      have hA : ¬ Avd (fun _ => []) (fun _ => False) a := fun q => q.elim (fun ⟨_, z⟩ => by cases z) id
      unfold RP
      simp only [Bool.false_eq_true, if_false]
      refine ⟨trivial, a, _, rfl, ?_, rps_ints ns⟩
      rcases h with h | h
      · exact .inl ⟨h, hA⟩
      · exact .inr fun H' => .inr h
  nil := fun _ _ => rfl
  nd := fun _ => by simp
  dj := fun i j a h => by cases h
  rs := fun a h => h.elim
  rt := fun a h => h.elim
theorem walk_vs {l : PySem.W.OpenLaw} {n N : Nat} {q : Program} {loose : List Str} {XP : (Str → Option Value) → Heap → Prop} {d : DefRec} {x : Str} {p : Prg} {xs : List (Nat × Df)} {m f0 : Nat} {fn0 : FnI} {d0 : Df} {Ns : List Str}
    (hn : l.most = some n) (hn2 : n ≤ sizeLine) (hdf : d.params.defaults = []) (hr : Room (3 * N + 4) callerA) (e0 : p.T.fns[f0]? = some fn0) (np0 : fn0.np = 1) (mu0 : fn0.mu = false) (ed : p.dfs[f0]? = some d0) (kd : d0.kwd = []) (eg : d0.loc = .glo d.name) (egf : p.nm.gf[f0]? = some (some d.name))
    (S0 : FnScope Ns [x] (defScope d0.st)) (hN : Ns.length = fn0.ns) (hok : okB ⟨defScope d0.st, Ns, fun _ => true, p.nm, false⟩ fn0.mu (defBody d0.st) fn0.code = true)
    (hb : ∀ (kV doc pm : Value) (an : Option Addr) (cdv ct : Value) (us : List Value), us.length = [x].length → bindArgs (PySem.W.fnOf (defName d0.st) d0.qual (defArgs d0.st) (defBody d0.st) (defScope d0.st) .none kV doc pm an cdv ct) ⟨us, []⟩ = pure ([x].zip us))
    (F : ∀ (w : World) (mg : Str → Option Value) (K : PySem.W.Frag) (h : Heap), K.In h → h.Ns mainGlobals mg → p.obs xs K = p.val → ∀ base, WdS (p.G K) l.prog w mg base)
    (hc : ∀ ns : List Int, ns.length ≤ n → ∃ fin, callF p.T (N + 1) f0 [.lst false (ns.map D.int)] = .ok (.bl true) fin) :
    PySem.W.WalkO q loose XP (p.hook xs m).says l.row.toRowW d [] (fun f vs => PySem.call f vs) := by
  refine Att.attach_call hn hdf fun w s₀ s₁ mg mb fa o pm cd doc a vs ns G Y ho hd hcd hmg hobj hints hlen hg => ?_
  obtain ⟨K, KX, c⟩ := Y
  have S := F w mg K _ KX G.T.g c
  obtain ⟨g, Fn⟩ := Prg.says_fn c f0 (d := d0) (by unfold Prg.all; rw [List.getElem?_append_left (List.getElem?_eq_some_iff.mp ed).1]; exact ed)
  have efa : (p.G K).fa f0 = d0.loc.ad K := by show p.fa K f0 = _; unfold Prg.fa; rw [ed]; rfl
  have e2 : mg d.name = some (.ref (d0.loc.ad K)) := by
    rw [← efa]
    exact ((S default).nmk.gf f0 d.name egf).1
  have hfa : fa = d0.loc.ad K := by
    rw [hmg] at e2
    injection e2 with e2
    injection e2
  subst hfa
  have Fn2 := Fn
  obtain ⟨oc, od, dV, kV, doc', pm', an, cdv, ct, osl, rfl, lk, hcd', hD, hK⟩ := Fn.ex
  refine law_call KX G.T.g G.T.b G.T.builtins G.T.nolimit hg hobj hints (Nat.le_trans hlen hn2) hr (fd := PySem.W.fnOf (defName d0.st) d0.qual (defArgs d0.st) (defBody d0.st) (defScope d0.st) dV kV doc' pm' an cdv ct) (x := x) (sp := spC ((p.G K).lv (N + 1)) f0 1 false) (CX := L2.CX l.prog w) (K := K) (P := l.prog) (fun base hb1 hb2 => ?_) (fun s u => ?_) (fun H hH hS => ?_) fun H e s' z => cx_no z
  · have := fn_ok (S base) N ((S base).all N) f0 fn0 e0 (by rw [efa]; exact lk) hcd' S0 (by rw [np0]; rfl) hN hok
    rw [efa, np0, mu0] at this
    exact this
  · have kw0 : Df.kws K d0 = [] := by unfold Df.kws; rw [kd]; rfl
    exact FunD.bindsA (ps := [x]) Fn2 hb s [u] rfl
  · obtain ⟨fin, e⟩ := hc ns hlen
    refine ⟨[.lst false (ns.map D.int)], fun _ => [], fun _ => False, ?_, rfl, es_law (R := p.R K) hS, ?_⟩
    · show D.allFz _ = true
      have : ∀ ns : List Int, D.allFz (ns.map D.int) = true := fun ns => by
        induction ns with
        | nil => rfl
        | cons n r ih => show (D.isFz (.int n) && D.allFz (r.map D.int)) = true; rw [ih]; rfl
      show (D.isFz (.lst false (ns.map D.int)) && true) = true
      show ((!false && D.allFz (ns.map D.int)) && true) = true
      rw [this]; rfl
    · show match callF p.T (N + 1) f0 [.lst false (ns.map D.int)] with
        | .ok d fin => _
        | .ex c xs => _
        | .no => _
      rw [e]
      intro v H' ow' os env' _ _ r
      unfold RP at r
      exact r.1
end VS
set_option Elab.async false
set_option linter.all false
set_option maxRecDepth 100000
set_option maxHeartbeats 0
/-! the code of the law's text: printed by wip/print.py -/
namespace Lw
open PySem PySem.Spec PyProof.Rows L2 VS
abbrev n_Web : Nat := 0
abbrev n_Kept : Nat := 1
abbrev n_Numbers : Nat := 2
abbrev n_NotKept : Nat := 3
abbrev n_BadTable : Nat := 4
abbrev n_BadNumbers : Nat := 5
abbrev n_Unseen : Nat := 6
abbrev n_BadSize : Nat := 7
abbrev n_BadRank : Nat := 8
abbrev n_BadNumber : Nat := 9
abbrev f_law : Nat := 0
abbrev f__law_draws : Nat := 1
abbrev f__law_case_late : Nat := 2
abbrev f__law_spots : Nat := 3
abbrev f_Web___init__ : Nat := 4
abbrev f__law_first_kept : Nat := 5
abbrev f__law_more : Nat := 6
abbrev f__law_take : Nat := 7
abbrev f__law_row_right : Nat := 8
abbrev f__law_exchanged : Nat := 9
abbrev f__law_menu_unlike : Nat := 10
abbrev f__law_chain : Nat := 11
abbrev f__law_may_start : Nat := 12
abbrev f__law_joined : Nat := 13
abbrev f_web_parts : Nat := 14
abbrev f_Kept___init__ : Nat := 15
abbrev f_Numbers___init__ : Nat := 16
abbrev f__law_copy : Nat := 17
abbrev f__law_pair : Nat := 18
abbrev f_above_judging : Nat := 19
abbrev f_below_judging : Nat := 20
abbrev f_keeps : Nat := 21
abbrev f_breach : Nat := 22
abbrev f__law_fails : Nat := 23
abbrev f__law_still : Nat := 24
abbrev f__law_table : Nat := 25
abbrev f__law_gain : Nat := 26
abbrev f_fitted : Nat := 27
abbrev f_is_row : Nat := 28
abbrev f_told_sizes : Nat := 29
abbrev f_checked_sizes : Nat := 30
abbrev f_first_apart : Nat := 31
abbrev f_told_pair : Nat := 32
abbrev f_check_rank : Nat := 33
abbrev f_check_number : Nat := 34
abbrev f_check_table : Nat := 35
abbrev f_is_int : Nat := 36
abbrev f_check_height : Nat := 37
abbrev f_Web_top : Nat := 38
abbrev f_Web___getitem__ : Nat := 39
abbrev f_Kept_top : Nat := 40
abbrev f_Numbers___getitem__ : Nat := 41
/-- law ['_law_script']: slots [(0, '_law_script'), (1, '_law_draws_here'), (2, '_law_case'), (3, '_law_spots_here'), (4, '_law_turn'), (5, '_law_spot'), (6, '_law_many'), (7, '_law_more_here'), (8, '_law_web'), (9, '_law_told'), (10, '_law_turned'), (11, '_law_row')] -/
def c_law : B :=
 (B.cons (.asg 1 (.call f__law_draws (Es.cons (.var 0) Es.nil) [] Es.nil))
 (B.cons (.asg 2 (.frz (.call f__law_case_late (Es.cons (.var 1) Es.nil) [] Es.nil)))
 (B.cons (.ifS (.cmp .ne (.call f__law_first_kept (Es.cons (.var 2) Es.nil) [] Es.nil) (.lst (Es.cons (.con (.str [107, 101, 112, 116])) Es.nil)))
 (B.cons (.ret (.con (.bl false)))
 B.nil)
 B.nil)
 (B.cons (.asg 3 (.frz (.call f__law_spots (Es.cons (.var 2) Es.nil) [] Es.nil)))
 (B.cons (.ifS (.cmp .eq (.blt .len (Es.cons (.var 3) Es.nil)) (.con (.int 0)))
 (B.cons (.ret (.con (.bl true)))
 B.nil)
 B.nil)
 (B.cons (.forS [4] false (I.rng (Es.cons (.con (.int 2)) Es.nil))
 (B.cons (.asg 5 (.sub (.var 3) (.call f__law_take (Es.cons (.var 1) (Es.cons (.blt .len (Es.cons (.var 3) Es.nil)) Es.nil)) [] Es.nil)))
 (B.cons (.ifS (.cmp .eq (.var 4) (.con (.int 1)))
 (B.cons (.asg 5 (.sub (.var 3) (.bin .sub (.bin .sub (.blt .len (Es.cons (.var 3) Es.nil)) (.con (.int 1))) (.call f__law_take (Es.cons (.var 1) (Es.cons (.blt .len (Es.cons (.var 3) Es.nil)) Es.nil)) [] Es.nil))))
 B.nil)
 B.nil)
 (B.cons (.asg 6 (.sub (.lst (Es.cons (.con (.int 1)) (Es.cons (.con (.int 1)) (Es.cons (.con (.int 2)) (Es.cons (.bin .pow (.con (.int 10)) (.con (.int 6))) Es.nil))))) (.call f__law_take (Es.cons (.var 1) (Es.cons (.con (.int 4)) Es.nil)) [] Es.nil)))
 (B.cons (.asg 7 (.frz (.call f__law_more (Es.cons (.var 2) (Es.cons (.var 5) (Es.cons (.var 6) Es.nil))) [] Es.nil)))
 (B.cons (.asg 8 (.frz (.new n_Web (Es.cons (.sub (.var 7) (.con (.int 1))) Es.nil) ["downs", "sizes"] (Es.cons (.sub (.var 7) (.con (.int 2))) (Es.cons (.sub (.var 7) (.con (.int 0))) Es.nil)))))
 (B.cons (.ifS (.not (.call f__law_row_right (Es.cons (.var 8) (Es.cons (.var 2) (Es.cons (.var 5) Es.nil))) [] Es.nil))
 (B.cons (.ret (.con (.bl false)))
 B.nil)
 B.nil)
 (B.cons (.asg 9 (.frz (.call f__law_first_kept (Es.cons (.var 7) Es.nil) [] Es.nil)))
 (B.cons (.ifS (.bool true (Es.cons (.cmp .ne (.var 9) (.lst (Es.cons (.con (.str [107, 101, 112, 116])) Es.nil))) (Es.cons (.cmp .lt (.sub (.var 9) (.con (.int 0))) (.sub (.var 5) (.con (.int 0)))) Es.nil)))
 (B.cons (.ret (.con (.bl false)))
 B.nil)
 B.nil)
 (B.cons (.ifS (.bool false (Es.cons (.cmp .eq (.var 9) (.lst (Es.cons (.con (.str [107, 101, 112, 116])) Es.nil))) (Es.cons (.cmp .gt (.sub (.var 9) (.con (.int 0))) (.sub (.var 5) (.con (.int 0)))) Es.nil)))
 (B.cons (.ifS (.cmp .gt (.blt .len (Es.cons (.comp (.var 11) [11] false (I.val (.sub (.sub (.var 2) (.con (.int 2))) (.sub (.var 5) (.con (.int 0))))) (Es.cons (.cmp .gt (.sub (.var 11) (.sub (.var 5) (.con (.int 2)))) (.con (.int 0))) Es.nil)) Es.nil)) (.con (.int 0)))
 (B.cons (.ret (.con (.bl false)))
 B.nil)
 B.nil)
 B.nil)
 (B.cons (.ifS (.cmp .ne (.sub (.var 9) (.con (.int 1))) (.sub (.var 5) (.con (.int 1))))
 (B.cons (.ret (.con (.bl false)))
 B.nil)
 B.nil)
 B.nil))
 (B.cons (.asg 10 (.frz (.call f__law_more (Es.cons (.call f__law_exchanged (Es.cons (.var 2) Es.nil) [] Es.nil) (Es.cons (.var 5) (Es.cons (.var 6) Es.nil))) [] Es.nil)))
 (B.cons (.asg 8 (.frz (.new n_Web (Es.cons (.sub (.var 10) (.con (.int 1))) Es.nil) ["downs", "sizes"] (Es.cons (.sub (.var 10) (.con (.int 2))) (Es.cons (.sub (.var 10) (.con (.int 0))) Es.nil)))))
 (B.cons (.ifS (.not (.call f__law_row_right (Es.cons (.var 8) (Es.cons (.call f__law_exchanged (Es.cons (.var 2) Es.nil) [] Es.nil) (Es.cons (.var 5) Es.nil))) [] Es.nil))
 (B.cons (.ret (.con (.bl false)))
 B.nil)
 B.nil)
 B.nil)))))))))))))
 (B.cons (.ret (.con (.bl true)))
 B.nil)))))))
/-- _law_draws ['_law_script']: slots [(0, '_law_script'), (1, '_law_draws_here'), (2, '_law_at'), (3, '_law_cell'), (4, '_law_k'), (5, '_law_number')] -/
def c__law_draws : B :=
 (B.cons (.asg 1 (.lst Es.nil))
 (B.cons (.forS [2] false (I.rng (Es.cons (.blt .min (Es.cons (.blt .len (Es.cons (.var 0) Es.nil)) (Es.cons (.con (.int 63)) Es.nil))) Es.nil))
 (B.cons (.asg 3 (.frz (.blt .int (Es.cons (.sub (.var 0) (.var 2)) Es.nil))))
 (B.cons (.ifS (.cmp .lt (.var 3) (.con (.int 0)))
 (B.cons (.asg 3 (.frz (.bin .sub (.con (.int 1)) (.var 3))))
 B.nil)
 B.nil)
 (B.cons (.ifS (.cmp .ge (.var 3) (.bin .pow (.con (.int 10)) (.con (.int 18))))
 (B.cons (.forS [4] false (I.rng (Es.cons (.con (.int 60)) Es.nil))
 (B.cons (.ifS (.cmp .gt (.var 3) (.con (.int 0)))
 (B.cons (.ex (.lm .append (.var 1) (Es.cons (.bin .mod (.blt .int (Es.cons (.var 3) Es.nil)) (.con (.int 24))) Es.nil)))
 (B.cons (.asg 3 (.frz (.bin .fdiv (.var 3) (.con (.int 24)))))
 B.nil))
 B.nil)
 B.nil))
 B.nil)
 (B.cons (.asg 5 (.frz (.bin .mod (.blt .int (Es.cons (.bin .add (.bin .add (.bin .mul (.var 3) (.con (.int 52361))) (.bin .mul (.var 2) (.con (.int 71249)))) (.con (.int 3))) Es.nil)) (.con (.int 2147483647)))))
 (B.cons (.forS [4] false (I.rng (Es.cons (.con (.int 6)) Es.nil))
 (B.cons (.asg 5 (.frz (.bin .mod (.blt .int (Es.cons (.bin .add (.bin .add (.bin .add (.bin .mul (.var 5) (.var 5)) (.bin .mul (.var 4) (.con (.int 30271)))) (.var 2)) (.con (.int 5))) Es.nil)) (.con (.int 2147483563)))))
 (B.cons (.ex (.lm .append (.var 1) (Es.cons (.var 5) Es.nil)))
 B.nil)))
 B.nil)))
 B.nil))))
 (B.cons (.ex (.lm .reverse (.var 1) Es.nil))
 (B.cons (.ret (.var 1))
 B.nil))))
/-- _law_case_late ['_law_draws_here']: slots [(0, '_law_draws_here'), (1, '_law_word'), (2, '_law_case'), (3, '_law_top'), (4, '_law_k'), (5, '_law_pairs'), (6, '_law_n'), (7, '_law_start')] -/
def c__law_case_late : B :=
 (B.cons (.asg 1 (.frz (.call f__law_take (Es.cons (.var 0) (Es.cons (.con (.int 8)) Es.nil)) [] Es.nil)))
 (B.cons (.asg 2 (.frz (.call f__law_menu_unlike (Es.cons (.bin .mod (.blt .int (Es.cons (.var 1) Es.nil)) (.con (.int 5))) Es.nil) [] Es.nil)))
 (B.cons (.ifS (.cmp .ge (.var 1) (.con (.int 5)))
 (B.cons (.asg 3 (.frz (.bin .add (.con (.int 2)) (.call f__law_take (Es.cons (.var 0) (Es.cons (.con (.int 3)) Es.nil)) [] Es.nil))))
 (B.cons (.asg 5 (.lst Es.nil))
 (B.cons (.forS [6] false (I.rng (Es.cons (.var 3) Es.nil))
 (B.cons (.ex (.lm .append (.var 5) (Es.cons (.tup (Es.cons (.sub (.lst (Es.cons (.con (.int 1)) (Es.cons (.con (.int 1)) (Es.cons (.con (.int 0)) (Es.cons (.con (.int 2)) Es.nil))))) (.call f__law_take (Es.cons (.var 0) (Es.cons (.con (.int 4)) Es.nil)) [] Es.nil)) (Es.cons (.sub (.lst (Es.cons (.con (.int 1)) (Es.cons (.con (.int 2)) (Es.cons (.con (.int 1)) (Es.cons (.con (.int 3)) (Es.cons (.neg (.con (.int 1))) (Es.cons (.con (.int 0)) Es.nil))))))) (.call f__law_take (Es.cons (.var 0) (Es.cons (.con (.int 6)) Es.nil)) [] Es.nil)) Es.nil))) Es.nil)))
 B.nil))
 (B.cons (.asg 2 (.frz (.call f__law_chain (Es.cons (.comp (.tup (Es.cons (.con (.int 1)) (Es.cons (.con (.int 1)) Es.nil))) [6] false (I.rng (Es.cons (.var 3) Es.nil)) Es.nil) (Es.cons (.con (.int 0)) (Es.cons (.var 3) Es.nil))) [] Es.nil)))
 (B.cons (.ifS (.call f__law_may_start (Es.cons (.var 5) (Es.cons (.con (.int 0)) (Es.cons (.var 3) Es.nil))) [] Es.nil)
 (B.cons (.asg 2 (.frz (.call f__law_chain (Es.cons (.var 5) (Es.cons (.con (.int 0)) (Es.cons (.var 3) Es.nil))) [] Es.nil)))
 B.nil)
 B.nil)
 B.nil)))))
 B.nil)
 (B.cons (.asg 3 (.frz (.blt .len (Es.cons (.sub (.var 2) (.con (.int 1))) Es.nil))))
 (B.cons (.forS [4] false (I.rng (Es.cons (.call f__law_take (Es.cons (.var 0) (Es.cons (.con (.int 3)) Es.nil)) [] Es.nil) Es.nil))
 (B.cons (.asg 7 (.frz (.call f__law_take (Es.cons (.var 0) (Es.cons (.bin .add (.var 3) (.con (.int 1))) Es.nil)) [] Es.nil)))
 (B.cons (.ifS (.call f__law_may_start (Es.cons (.sub (.var 2) (.con (.int 3))) (Es.cons (.var 7) (Es.cons (.var 3) Es.nil))) [] Es.nil)
 (B.cons (.asg 2 (.frz (.call f__law_joined (Es.cons (.var 2) (Es.cons (.call f__law_chain (Es.cons (.sub (.var 2) (.con (.int 3))) (Es.cons (.var 7) (Es.cons (.var 3) Es.nil))) [] Es.nil) Es.nil)) [] Es.nil)))
 B.nil)
 B.nil)
 B.nil)))
 (B.cons (.ifS (.cmp .eq (.call f__law_take (Es.cons (.var 0) (Es.cons (.con (.int 4)) Es.nil)) [] Es.nil) (.con (.int 3)))
 (B.cons (.asg 2 (.frz (.call f__law_exchanged (Es.cons (.var 2) Es.nil) [] Es.nil)))
 B.nil)
 B.nil)
 (B.cons (.ret (.var 2))
 B.nil)))))))
/-- _law_spots ['_law_case']: slots [(0, '_law_case'), (1, '_law_spots_here'), (2, '_law_rank'), (3, '_law_x'), (4, '_law_y')] -/
def c__law_spots : B :=
 (B.cons (.asg 1 (.lst Es.nil))
 (B.cons (.forS [2] false (I.rng (Es.cons (.blt .len (Es.cons (.sub (.var 0) (.con (.int 1))) Es.nil)) Es.nil))
 (B.cons (.forS [3] false (I.rng (Es.cons (.sub (.sub (.var 0) (.con (.int 0))) (.var 2)) Es.nil))
 (B.cons (.forS [4] false (I.rng (Es.cons (.sub (.sub (.var 0) (.con (.int 0))) (.bin .add (.var 2) (.con (.int 1)))) Es.nil))
 (B.cons (.ex (.lm .append (.var 1) (Es.cons (.tup (Es.cons (.var 2) (Es.cons (.var 3) (Es.cons (.var 4) Es.nil)))) Es.nil)))
 B.nil))
 B.nil))
 B.nil))
 (B.cons (.ret (.var 1))
 B.nil)))
/-- Web.__init__ ['self', 'ups', 'downs', 'sizes']: slots [(0, 'self'), (1, 'ups'), (2, 'downs'), (3, 'sizes')] -/
def c_Web___init__ : B :=
 (B.cons (.asgF ["sizes", "ups", "downs"] true (.call f_web_parts (Es.cons (.var 1) (Es.cons (.var 2) (Es.cons (.var 3) Es.nil))) [] Es.nil))
 B.nil)
/-- _law_first_kept ['_law_case']: slots [(0, '_law_case'), (1, '_law_told'), (2, 'wrong')] -/
def c__law_first_kept : B :=
 (B.cons (.asg 1 (.frz (.lst (Es.cons (.con (.str [107, 101, 112, 116])) Es.nil))))
 (B.cons (.tryS (B.cons (.ex (.new n_Kept (Es.cons (.new n_Web (Es.cons (.sub (.var 0) (.con (.int 1))) Es.nil) ["downs", "sizes"] (Es.cons (.sub (.var 0) (.con (.int 2))) (Es.cons (.sub (.var 0) (.con (.int 0))) Es.nil))) (Es.cons (.new n_Numbers (Es.cons (.sub (.var 0) (.con (.int 3))) Es.nil) [] Es.nil) Es.nil)) [] Es.nil))
 B.nil)
 (Hs.cons n_NotKept (some 2) (B.cons (.asg 1 (.frz (.lst (Es.cons (.xat 2 "rank") (Es.cons (.xat 2 "first") (Es.cons (.xat 2 "second") Es.nil))))))
 B.nil) Hs.nil))
 (B.cons (.ret (.var 1))
 B.nil)))
/-- _law_more ['_law_case', '_law_spot', '_law_many']: slots [(0, '_law_case'), (1, '_law_spot'), (2, '_law_many'), (3, '_law_ups'), (4, '_law_table_here')] -/
def c__law_more : B :=
 (B.cons (.asg 3 (.comp (.call f__law_copy (Es.cons (.var 4) Es.nil) [] Es.nil) [4] false (I.val (.sub (.var 0) (.con (.int 1)))) Es.nil))
 (B.cons (.augS (.sub (.sub (.var 3) (.sub (.var 1) (.con (.int 0)))) (.sub (.var 1) (.con (.int 1)))) (.sub (.var 1) (.con (.int 2))) .add (.var 2))
 (B.cons (.ret (.lst (Es.cons (.sub (.var 0) (.con (.int 0))) (Es.cons (.var 3) (Es.cons (.comp (.call f__law_copy (Es.cons (.var 4) Es.nil) [] Es.nil) [4] false (I.val (.sub (.var 0) (.con (.int 2)))) Es.nil) (Es.cons (.sub (.var 0) (.con (.int 3))) (Es.cons (.sub (.var 0) (.con (.int 4))) Es.nil)))))))
 B.nil)))
/-- _law_take ['_law_draws_here', '_law_many']: slots [(0, '_law_draws_here'), (1, '_law_many')] -/
def c__law_take : B :=
 (B.cons (.ifS (.cmp .eq (.blt .len (Es.cons (.var 0) Es.nil)) (.con (.int 0)))
 (B.cons (.ret (.con (.int 0)))
 B.nil)
 B.nil)
 (B.cons (.ret (.bin .mod (.blt .int (Es.cons (.lm .pop (.var 0) Es.nil) Es.nil)) (.var 1)))
 B.nil))
/-- _law_row_right ['_law_web', '_law_case', '_law_spot']: slots [(0, '_law_web'), (1, '_law_case'), (2, '_law_spot'), (3, '_law_rank'), (4, '_law_pair_here'), (5, '_law_reached'), (6, '_law_over'), (7, '_law_under'), (8, '_law_x'), (9, '_law_first'), (10, '_law_told'), (11, '_law_due'), (12, '_law_z')] -/
def c__law_row_right : B :=
 (B.cons (.asg 3 (.sub (.var 2) (.con (.int 0))))
 (B.cons (.asg 4 (.frz (.call f__law_pair (Es.cons (.sub (.var 1) (.con (.int 3))) (Es.cons (.var 3) Es.nil)) [] Es.nil)))
 (B.cons (.asg 5 (.frz (.comp (.var 12) [12] false (I.rng (Es.cons (.sub (.sub (.var 1) (.con (.int 0))) (.var 3)) Es.nil)) (Es.cons (.cmp .gt (.sub (.sub (.sub (.sub (.var 1) (.con (.int 2))) (.var 3)) (.var 12)) (.sub (.var 2) (.con (.int 2)))) (.con (.int 0))) Es.nil))))
 (B.cons (.asg 6 (.frz (.call f_above_judging (Es.cons (.var 0) (Es.cons (.var 3) Es.nil)) [] Es.nil)))
 (B.cons (.asg 7 (.frz (.call f_below_judging (Es.cons (.var 0) (Es.cons (.var 3) Es.nil)) [] Es.nil)))
 (B.cons (.forS [8] false (I.rng (Es.cons (.sub (.sub (.var 1) (.con (.int 0))) (.var 3)) Es.nil))
 (B.cons (.asg 11 (.frz (.lst Es.nil)))
 (B.cons (.ifS (.cmp .eq (.var 8) (.sub (.var 2) (.con (.int 1))))
 (B.cons (.asg 11 (.var 5))
 B.nil)
 B.nil)
 (B.cons (.ifS (.cmp .ne (.call f__law_fails (Es.cons (.var 6) (Es.cons (.var 7) (Es.cons (.var 4) (Es.cons (.var 8) Es.nil)))) [] Es.nil) (.var 11))
 (B.cons (.ret (.con (.bl false)))
 B.nil)
 B.nil)
 B.nil))))
 (B.cons (.asg 9 (.con .non))
 (B.cons (.ifS (.cmp .gt (.blt .len (Es.cons (.var 5) Es.nil)) (.con (.int 0)))
 (B.cons (.asg 9 (.tup (Es.cons (.sub (.var 2) (.con (.int 1))) (Es.cons (.sub (.var 5) (.con (.int 0))) Es.nil))))
 B.nil)
 B.nil)
 (B.cons (.asg 10 (.frz (.call f_keeps (Es.cons (.var 0) (Es.cons (.var 3) (Es.cons (.sub (.var 4) (.con (.int 0))) (Es.cons (.sub (.var 4) (.con (.int 1))) Es.nil)))) [] Es.nil)))
 (B.cons (.ifS (.bool false (Es.cons (.not (.blt .isinst (Es.cons (.var 10) (Es.cons (.glo (.ty "bool")) Es.nil)))) (Es.cons (.cmp .ne (.var 10) (.cmp .is (.var 9) (.con .non))) Es.nil)))
 (B.cons (.ret (.con (.bl false)))
 B.nil)
 B.nil)
 (B.cons (.ret (.cmp .eq (.call f_breach (Es.cons (.var 0) (Es.cons (.var 3) (Es.cons (.sub (.var 4) (.con (.int 0))) (Es.cons (.sub (.var 4) (.con (.int 1))) Es.nil)))) [] Es.nil) (.var 9)))
 B.nil)))))))))))
/-- _law_exchanged ['_law_case']: slots [(0, '_law_case')] -/
def c__law_exchanged : B :=
 (B.cons (.ret (.lst (Es.cons (.sub (.var 0) (.con (.int 0))) (Es.cons (.sub (.var 0) (.con (.int 2))) (Es.cons (.sub (.var 0) (.con (.int 1))) (Es.cons (.sub (.var 0) (.con (.int 3))) (Es.cons (.sub (.var 0) (.con (.int 4))) Es.nil)))))))
 B.nil)
/-- _law_menu_unlike ['_law_word']: slots [(0, '_law_word'), (1, '_law_downs'), (2, '_law_ups')] -/
def c__law_menu_unlike : B :=
 (B.cons (.ifS (.cmp .eq (.var 0) (.con (.int 0)))
 (B.cons (.asg 1 (.frz (.lst (Es.cons (.lst (Es.cons (.lst (Es.cons (.con (.int 1)) (Es.cons (.con (.int 1)) Es.nil))) Es.nil)) (Es.cons (.lst (Es.cons (.lst (Es.cons (.con (.int 0)) (Es.cons (.con (.int 1)) Es.nil))) (Es.cons (.lst (Es.cons (.con (.int 1)) (Es.cons (.con (.int 0)) Es.nil))) Es.nil))) Es.nil)))))
 (B.cons (.ret (.lst (Es.cons (.lst (Es.cons (.con (.int 1)) (Es.cons (.con (.int 2)) (Es.cons (.con (.int 2)) Es.nil)))) (Es.cons (.lst (Es.cons (.lst (Es.cons (.lst (Es.cons (.con (.int 1)) (Es.cons (.con (.int 1)) Es.nil))) Es.nil)) (Es.cons (.lst (Es.cons (.lst (Es.cons (.con (.int 1)) (Es.cons (.con (.int 0)) Es.nil))) (Es.cons (.lst (Es.cons (.con (.int 0)) (Es.cons (.con (.int 1)) Es.nil))) Es.nil))) Es.nil))) (Es.cons (.var 1) (Es.cons (.lst (Es.cons (.tup (Es.cons (.con (.int 1)) (Es.cons (.con (.int 2)) Es.nil))) (Es.cons (.tup (Es.cons (.con (.int 1)) (Es.cons (.neg (.con (.int 1))) Es.nil))) Es.nil))) (Es.cons (.call f__law_still (Es.cons (.lst (Es.cons (.con (.int 1)) (Es.cons (.con (.int 2)) (Es.cons (.con (.int 2)) Es.nil)))) Es.nil) [] Es.nil) Es.nil)))))))
 B.nil))
 B.nil)
 (B.cons (.ifS (.cmp .eq (.var 0) (.con (.int 1)))
 (B.cons (.asg 2 (.frz (.lst (Es.cons (.lst (Es.cons (.lst (Es.cons (.con (.int 1)) (Es.cons (.con (.int 2)) Es.nil))) Es.nil)) (Es.cons (.lst (Es.cons (.lst (Es.cons (.con (.int 2)) (Es.cons (.con (.int 0)) Es.nil))) (Es.cons (.lst (Es.cons (.con (.int 1)) (Es.cons (.con (.int 1)) Es.nil))) Es.nil))) (Es.cons (.lst (Es.cons (.lst (Es.cons (.con (.int 1)) Es.nil)) (Es.cons (.lst (Es.cons (.con (.int 1)) Es.nil)) Es.nil))) Es.nil))))))
 (B.cons (.asg 1 (.frz (.lst (Es.cons (.lst (Es.cons (.lst (Es.cons (.con (.int 1)) (Es.cons (.con (.int 1)) Es.nil))) Es.nil)) (Es.cons (.lst (Es.cons (.lst (Es.cons (.con (.int 1)) (Es.cons (.con (.int 0)) Es.nil))) (Es.cons (.lst (Es.cons (.con (.int 1)) (Es.cons (.con (.int 2)) Es.nil))) Es.nil))) (Es.cons (.lst (Es.cons (.lst (Es.cons (.con (.int 2)) Es.nil)) (Es.cons (.lst (Es.cons (.con (.int 1)) Es.nil)) Es.nil))) Es.nil))))))
 (B.cons (.ret (.lst (Es.cons (.lst (Es.cons (.con (.int 1)) (Es.cons (.con (.int 2)) (Es.cons (.con (.int 2)) (Es.cons (.con (.int 1)) Es.nil))))) (Es.cons (.var 2) (Es.cons (.var 1) (Es.cons (.lst (Es.cons (.tup (Es.cons (.con (.int 1)) (Es.cons (.con (.int 3)) Es.nil))) (Es.cons (.tup (Es.cons (.con (.int 1)) (Es.cons (.con (.int 1)) Es.nil))) (Es.cons (.tup (Es.cons (.con (.int 1)) (Es.cons (.neg (.con (.int 1))) Es.nil))) Es.nil)))) (Es.cons (.call f__law_still (Es.cons (.lst (Es.cons (.con (.int 1)) (Es.cons (.con (.int 2)) (Es.cons (.con (.int 2)) (Es.cons (.con (.int 1)) Es.nil))))) Es.nil) [] Es.nil) Es.nil)))))))
 B.nil)))
 B.nil)
 (B.cons (.ifS (.cmp .eq (.var 0) (.con (.int 2)))
 (B.cons (.asg 2 (.frz (.lst (Es.cons (.lst (Es.cons (.lst (Es.cons (.con (.int 1)) Es.nil)) Es.nil)) (Es.cons (.lst (Es.cons (.lst (Es.cons (.con (.int 1)) (Es.cons (.con (.int 1)) Es.nil))) Es.nil)) (Es.cons (.lst (Es.cons (.lst (Es.cons (.con (.int 1)) (Es.cons (.con (.int 0)) (Es.cons (.con (.int 1)) (Es.cons (.con (.int 0)) Es.nil))))) (Es.cons (.lst (Es.cons (.con (.int 0)) (Es.cons (.con (.int 1)) (Es.cons (.con (.int 0)) (Es.cons (.con (.int 1)) Es.nil))))) Es.nil))) Es.nil))))))
 (B.cons (.asg 1 (.frz (.lst (Es.cons (.lst (Es.cons (.lst (Es.cons (.con (.int 1)) Es.nil)) Es.nil)) (Es.cons (.lst (Es.cons (.lst (Es.cons (.con (.int 1)) (Es.cons (.con (.int 1)) Es.nil))) Es.nil)) (Es.cons (.lst (Es.cons (.lst (Es.cons (.con (.int 1)) (Es.cons (.con (.int 1)) (Es.cons (.con (.int 1)) (Es.cons (.con (.int 0)) Es.nil))))) (Es.cons (.lst (Es.cons (.con (.int 0)) (Es.cons (.con (.int 1)) (Es.cons (.con (.int 1)) (Es.cons (.con (.int 1)) Es.nil))))) Es.nil))) Es.nil))))))
 (B.cons (.ret (.lst (Es.cons (.lst (Es.cons (.con (.int 1)) (Es.cons (.con (.int 1)) (Es.cons (.con (.int 2)) (Es.cons (.con (.int 4)) Es.nil))))) (Es.cons (.var 2) (Es.cons (.var 1) (Es.cons (.lst (Es.cons (.tup (Es.cons (.con (.int 1)) (Es.cons (.con (.int 1)) Es.nil))) (Es.cons (.tup (Es.cons (.con (.int 1)) (Es.cons (.con (.int 1)) Es.nil))) (Es.cons (.tup (Es.cons (.con (.int 1)) (Es.cons (.con (.int 1)) Es.nil))) Es.nil)))) (Es.cons (.call f__law_still (Es.cons (.lst (Es.cons (.con (.int 1)) (Es.cons (.con (.int 1)) (Es.cons (.con (.int 2)) (Es.cons (.con (.int 4)) Es.nil))))) Es.nil) [] Es.nil) Es.nil)))))))
 B.nil)))
 B.nil)
 (B.cons (.ifS (.cmp .eq (.var 0) (.con (.int 3)))
 (B.cons (.ret (.lst (Es.cons (.lst (Es.cons (.con (.int 1)) (Es.cons (.con (.int 2)) Es.nil))) (Es.cons (.lst (Es.cons (.lst (Es.cons (.lst (Es.cons (.con (.int 1)) (Es.cons (.con (.int 0)) Es.nil))) Es.nil)) Es.nil)) (Es.cons (.lst (Es.cons (.lst (Es.cons (.lst (Es.cons (.con (.int 0)) (Es.cons (.con (.int 1)) Es.nil))) Es.nil)) Es.nil)) (Es.cons (.lst (Es.cons (.tup (Es.cons (.con (.int 1)) (Es.cons (.con (.int 0)) Es.nil))) Es.nil)) (Es.cons (.call f__law_still (Es.cons (.lst (Es.cons (.con (.int 1)) (Es.cons (.con (.int 2)) Es.nil))) Es.nil) [] Es.nil) Es.nil)))))))
 B.nil)
 B.nil)
 (B.cons (.ret (.lst (Es.cons (.lst (Es.cons (.con (.int 0)) (Es.cons (.con (.int 1)) (Es.cons (.con (.int 1)) Es.nil)))) (Es.cons (.lst (Es.cons (.lst Es.nil) (Es.cons (.lst (Es.cons (.lst (Es.cons (.con (.int 1)) Es.nil)) Es.nil)) Es.nil))) (Es.cons (.lst (Es.cons (.lst Es.nil) (Es.cons (.lst (Es.cons (.lst (Es.cons (.con (.int 1)) Es.nil)) Es.nil)) Es.nil))) (Es.cons (.lst (Es.cons (.tup (Es.cons (.con (.int 1)) (Es.cons (.con (.int 1)) Es.nil))) (Es.cons (.tup (Es.cons (.con (.int 1)) (Es.cons (.con (.int 1)) Es.nil))) Es.nil))) (Es.cons (.call f__law_still (Es.cons (.lst (Es.cons (.con (.int 0)) (Es.cons (.con (.int 1)) (Es.cons (.con (.int 1)) Es.nil)))) Es.nil) [] Es.nil) Es.nil)))))))
 B.nil)))))
/-- _law_chain ['_law_pairs', '_law_start', '_law_top']: slots [(0, '_law_pairs'), (1, '_law_start'), (2, '_law_top'), (3, '_law_sizes'), (4, '_law_ups'), (5, '_law_downs'), (6, '_law_living'), (7, '_law_n'), (8, '_law_gain_here'), (9, '_law_up'), (10, '_law_down')] -/
def c__law_chain : B :=
 (B.cons (.asg 3 (.lst Es.nil))
 (B.cons (.asg 4 (.lst Es.nil))
 (B.cons (.asg 5 (.lst Es.nil))
 (B.cons (.asg 6 (.con (.bl true)))
 (B.cons (.forS [7] false (I.rng (Es.cons (.bin .add (.var 2) (.con (.int 1))) Es.nil))
 (B.cons (.ifS (.bool false (Es.cons (.cmp .lt (.var 7) (.var 1)) (Es.cons (.not (.var 6)) Es.nil)))
 (B.cons (.ex (.lm .append (.var 3) (Es.cons (.con (.int 0)) Es.nil)))
 B.nil)
 (B.cons (.ex (.lm .append (.var 3) (Es.cons (.con (.int 1)) Es.nil)))
 (B.cons (.ifS (.cmp .le (.call f__law_gain (Es.cons (.var 0) (Es.cons (.var 1) (Es.cons (.bin .sub (.bin .add (.var 7) (.con (.int 1))) (.var 1)) Es.nil))) [] Es.nil) (.con (.int 0)))
 (B.cons (.asg 6 (.con (.bl false)))
 B.nil)
 B.nil)
 B.nil)))
 B.nil))
 (B.cons (.forS [7] false (I.rng (Es.cons (.var 2) Es.nil))
 (B.cons (.asg 8 (.con (.int 0)))
 (B.cons (.ifS (.cmp .eq (.sub (.var 3) (.var 7)) (.con (.int 1)))
 (B.cons (.asg 8 (.frz (.call f__law_gain (Es.cons (.var 0) (Es.cons (.var 1) (Es.cons (.bin .sub (.bin .add (.var 7) (.con (.int 1))) (.var 1)) Es.nil))) [] Es.nil)))
 B.nil)
 B.nil)
 (B.cons (.asg 9 (.call f__law_table (Es.cons (.sub (.var 3) (.var 7)) (Es.cons (.sub (.var 3) (.bin .add (.var 7) (.con (.int 1)))) Es.nil)) [] Es.nil))
 (B.cons (.asg 10 (.call f__law_table (Es.cons (.sub (.var 3) (.var 7)) (Es.cons (.sub (.var 3) (.bin .add (.var 7) (.con (.int 1)))) Es.nil)) [] Es.nil))
 (B.cons (.ifS (.bool true (Es.cons (.cmp .eq (.sub (.var 3) (.var 7)) (.con (.int 1))) (Es.cons (.cmp .eq (.sub (.var 3) (.bin .add (.var 7) (.con (.int 1)))) (.con (.int 1))) Es.nil)))
 (B.cons (.asgS (.sub (.var 9) (.con (.int 0))) (.con (.int 0)) (.con (.int 1)))
 (B.cons (.asgS (.sub (.var 10) (.con (.int 0))) (.con (.int 0)) (.var 8))
 B.nil))
 B.nil)
 (B.cons (.ex (.lm .append (.var 4) (Es.cons (.var 9) Es.nil)))
 (B.cons (.ex (.lm .append (.var 5) (Es.cons (.var 10) Es.nil)))
 B.nil))))))))
 (B.cons (.ret (.lst (Es.cons (.var 3) (Es.cons (.var 4) (Es.cons (.var 5) (Es.cons (.blt .list (Es.cons (.var 0) Es.nil)) (Es.cons (.call f__law_still (Es.cons (.var 3) Es.nil) [] Es.nil) Es.nil)))))))
 B.nil)))))))
/-- _law_may_start ['_law_pairs', '_law_start', '_law_top']: slots [(0, '_law_pairs'), (1, '_law_start'), (2, '_law_top'), (3, '_law_n'), (4, '_law_gain_here')] -/
def c__law_may_start : B :=
 (B.cons (.forS [3] false (I.rng (Es.cons (.var 1) (Es.cons (.var 2) Es.nil)))
 (B.cons (.asg 4 (.frz (.call f__law_gain (Es.cons (.var 0) (Es.cons (.var 1) (Es.cons (.bin .sub (.bin .add (.var 3) (.con (.int 1))) (.var 1)) Es.nil))) [] Es.nil)))
 (B.cons (.ifS (.cmp .eq (.var 4) (.con (.int 0)))
 (B.cons (.ret (.con (.bl true)))
 B.nil)
 B.nil)
 (B.cons (.ifS (.cmp .lt (.var 4) (.con (.int 0)))
 (B.cons (.ret (.con (.bl false)))
 B.nil)
 B.nil)
 B.nil))))
 (B.cons (.ret (.con (.bl true)))
 B.nil))
/-- _law_joined ['_law_one', '_law_other']: slots [(0, '_law_one'), (1, '_law_other'), (2, '_law_sizes'), (3, '_law_sides'), (4, '_law_side'), (5, '_law_turns'), (6, '_law_n'), (7, '_law_tables'), (8, '_law_left'), (9, '_law_right'), (10, '_law_table_here'), (11, '_law_y'), (12, '_law_row'), (13, '_law_z')] -/
def c__law_joined : B :=
 (B.cons (.asg 2 (.frz (.comp (.bin .add (.sub (.sub (.var 0) (.con (.int 0))) (.var 6)) (.sub (.sub (.var 1) (.con (.int 0))) (.var 6))) [6] false (I.rng (Es.cons (.blt .len (Es.cons (.sub (.var 0) (.con (.int 0))) Es.nil)) Es.nil)) Es.nil)))
 (B.cons (.asg 3 (.lst Es.nil))
 (B.cons (.forS [4] false (I.rng (Es.cons (.con (.int 1)) (Es.cons (.con (.int 3)) Es.nil)))
 (B.cons (.asg 7 (.lst Es.nil))
 (B.cons (.forS [6] false (I.rng (Es.cons (.bin .sub (.blt .len (Es.cons (.var 2) Es.nil)) (.con (.int 1))) Es.nil))
 (B.cons (.asg 8 (.frz (.comp (.con (.int 0)) [11] false (I.rng (Es.cons (.sub (.sub (.var 0) (.con (.int 0))) (.bin .add (.var 6) (.con (.int 1)))) Es.nil)) Es.nil)))
 (B.cons (.asg 9 (.frz (.comp (.con (.int 0)) [11] false (I.rng (Es.cons (.sub (.sub (.var 1) (.con (.int 0))) (.bin .add (.var 6) (.con (.int 1)))) Es.nil)) Es.nil)))
 (B.cons (.asg 10 (.frz (.comp (.bin .add (.blt .list (Es.cons (.var 12) Es.nil)) (.var 9)) [12] false (I.val (.sub (.sub (.var 0) (.var 4)) (.var 6))) Es.nil)))
 (B.cons (.ex (.lm .append (.var 7) (Es.cons (.bin .add (.var 10) (.frz (.comp (.bin .add (.var 8) (.blt .list (Es.cons (.var 12) Es.nil))) [12] false (I.val (.sub (.sub (.var 1) (.var 4)) (.var 6))) Es.nil))) Es.nil)))
 B.nil)))))
 (B.cons (.ex (.lm .append (.var 3) (Es.cons (.var 7) Es.nil)))
 B.nil))))
 (B.cons (.asg 5 (.lst Es.nil))
 (B.cons (.forS [6] false (I.rng (Es.cons (.blt .len (Es.cons (.var 2) Es.nil)) Es.nil))
 (B.cons (.ex (.lm .append (.var 5) (Es.cons (.bin .add (.blt .list (Es.cons (.sub (.sub (.var 0) (.con (.int 4))) (.var 6)) Es.nil)) (.frz (.comp (.bin .add (.sub (.sub (.var 0) (.con (.int 0))) (.var 6)) (.var 13)) [13] false (I.val (.sub (.sub (.var 1) (.con (.int 4))) (.var 6))) Es.nil))) Es.nil)))
 B.nil))
 (B.cons (.ret (.lst (Es.cons (.var 2) (Es.cons (.sub (.var 3) (.con (.int 0))) (Es.cons (.sub (.var 3) (.con (.int 1))) (Es.cons (.blt .list (Es.cons (.sub (.var 0) (.con (.int 3))) Es.nil)) (Es.cons (.var 5) Es.nil)))))))
 B.nil))))))
/-- web_parts ['ups', 'downs', 'sizes']: slots [(0, 'ups'), (1, 'downs'), (2, 'sizes'), (3, 'told'), (4, 'up_tables'), (5, 'down_tables')] -/
def c_web_parts : B :=
 (B.cons (.ifS (.not (.call f_is_row (Es.cons (.var 0) Es.nil) [] Es.nil))
 (B.cons (.rai n_BadTable (Es.cons (.neg (.con (.int 1))) (Es.cons (.con (.str [117, 112, 115])) Es.nil)))
 B.nil)
 B.nil)
 (B.cons (.ifS (.bool true (Es.cons (.cmp .isn (.var 1) (.con .non)) (Es.cons (.bool false (Es.cons (.not (.call f_is_row (Es.cons (.var 1) Es.nil) [] Es.nil)) (Es.cons (.cmp .ne (.blt .len (Es.cons (.var 1) Es.nil)) (.blt .len (Es.cons (.var 0) Es.nil))) Es.nil))) Es.nil)))
 (B.cons (.rai n_BadTable (Es.cons (.neg (.con (.int 1))) (Es.cons (.con (.str [100, 111, 119, 110, 115])) Es.nil)))
 B.nil)
 B.nil)
 (B.cons (.asg 3 (.ite (.cmp .is (.var 2) (.con .non)) (.call f_told_sizes (Es.cons (.var 0) Es.nil) [] Es.nil) (.call f_checked_sizes (Es.cons (.var 2) (Es.cons (.blt .len (Es.cons (.var 0) Es.nil)) Es.nil)) [] Es.nil)))
 (B.cons (.asg 4 (.frz (.call f_fitted (Es.cons (.var 0) (Es.cons (.con (.str [117, 112, 115])) (Es.cons (.var 3) Es.nil))) [] Es.nil)))
 (B.cons (.asg 5 (.ite (.cmp .is (.var 1) (.con .non)) (.var 4) (.call f_fitted (Es.cons (.var 1) (Es.cons (.con (.str [100, 111, 119, 110, 115])) (Es.cons (.var 3) Es.nil))) [] Es.nil)))
 (B.cons (.ret (.tup (Es.cons (.var 3) (Es.cons (.var 4) (Es.cons (.var 5) Es.nil)))))
 B.nil))))))
/-- Kept.__init__ ['self', 'web', 'numbers']: slots [(0, 'self'), (1, 'web'), (2, 'numbers'), (3, 'rank'), (4, 'belows'), (5, 'aboves'), (6, 'apart'), (7, 'q'), (8, 'r')] -/
def c_Kept___init__ : B :=
 (B.cons (.asgF ["web"] false (.var 1))
 (B.cons (.asgF ["numbers"] false (.var 2))
 (B.cons (.asgF ["sizes"] false (.attr (.var 1) "sizes"))
 (B.cons (.par 4 5 (.lst Es.nil) (.lst Es.nil))
 (B.cons (.forS [3] false (I.rng (Es.cons (.attr (.var 1) "top") Es.nil))
 (B.cons (.ex (.lm .append (.var 4) (Es.cons (.call f_below_judging (Es.cons (.var 1) (Es.cons (.var 3) Es.nil)) [] Es.nil) Es.nil)))
 (B.cons (.ex (.lm .append (.var 5) (Es.cons (.call f_above_judging (Es.cons (.var 1) (Es.cons (.var 3) Es.nil)) [] Es.nil) Es.nil)))
 (B.cons (.asgT [7, 8] (.sub (.var 2) (.var 3)))
 (B.cons (.asg 6 (.frz (.call f_first_apart (Es.cons (.tup (Es.cons (.sub (.var 4) (.var 3)) (Es.cons (.sub (.var 5) (.var 3)) Es.nil))) (Es.cons (.var 7) (Es.cons (.var 8) Es.nil))) [] Es.nil)))
 (B.cons (.ifS (.cmp .isn (.var 6) (.con .non))
 (B.cons (.rai n_NotKept (Es.cons (.var 3) (Es.cons (.sub (.var 6) (.con (.int 0))) (Es.cons (.sub (.var 6) (.con (.int 1))) Es.nil))))
 B.nil)
 B.nil)
 B.nil))))))
 (B.cons (.ex (.lm .append (.var 4) (Es.cons (.call f_below_judging (Es.cons (.var 1) (Es.cons (.attr (.var 1) "top") Es.nil)) [] Es.nil) Es.nil)))
 (B.cons (.asgF ["_belows", "_aboves"] true (.tup (Es.cons (.blt .tuple (Es.cons (.var 4) Es.nil)) (Es.cons (.blt .tuple (Es.cons (.var 5) Es.nil)) Es.nil))))
 (B.cons (.asgF ["_row"] false (.blt .tuple (Es.cons (.comp (.sub (.var 2) (.var 3)) [3] false (I.rng (Es.cons (.bin .add (.attr (.var 1) "top") (.con (.int 1))) Es.nil)) Es.nil) Es.nil)))
 B.nil))))))))
/-- Numbers.__init__ ['self', 'pairs', 'tail']: slots [(0, 'self'), (1, 'pairs'), (2, 'tail'), (3, 'row'), (4, 'at'), (5, 'pair')] -/
def c_Numbers___init__ : B :=
 (B.cons (.ifS (.not (.call f_is_row (Es.cons (.var 1) Es.nil) [] Es.nil))
 (B.cons (.rai n_BadNumbers (Es.cons (.neg (.con (.int 1))) Es.nil))
 B.nil)
 B.nil)
 (B.cons (.asg 3 (.comp (.call f_told_pair (Es.cons (.var 5) (Es.cons (.var 4) Es.nil)) [] Es.nil) [4, 5] true (I.enu (.var 1)) Es.nil))
 (B.cons (.asgF ["tail"] false (.call f_told_pair (Es.cons (.var 2) (Es.cons (.blt .len (Es.cons (.var 1) Es.nil)) Es.nil)) [] Es.nil))
 (B.cons (.whS (.bool true (Es.cons (.var 3) (Es.cons (.cmp .eq (.sub (.var 3) (.neg (.con (.int 1)))) (.attr (.var 0) "tail")) Es.nil)))
 (B.cons (.ex (.lm .pop (.var 3) Es.nil))
 B.nil))
 (B.cons (.asgF ["pairs"] false (.blt .tuple (Es.cons (.var 3) Es.nil)))
 B.nil)))))
/-- _law_copy ['_law_table_here']: slots [(0, '_law_table_here'), (1, '_law_row')] -/
def c__law_copy : B :=
 (B.cons (.ret (.comp (.blt .list (Es.cons (.var 1) Es.nil)) [1] false (I.val (.var 0)) Es.nil))
 B.nil)
/-- _law_pair ['_law_pairs', '_law_rank']: slots [(0, '_law_pairs'), (1, '_law_rank')] -/
def c__law_pair : B :=
 (B.cons (.ifS (.cmp .lt (.var 1) (.blt .len (Es.cons (.var 0) Es.nil)))
 (B.cons (.ret (.sub (.var 0) (.var 1)))
 B.nil)
 B.nil)
 (B.cons (.ret (.tup (Es.cons (.con (.int 1)) (Es.cons (.con (.int 1)) Es.nil))))
 B.nil))
/-- above ['web', 'rank']: slots [(0, 'web'), (1, 'rank'), (2, 'ups'), (3, 'downs'), (4, 'x'), (5, 'z'), (6, 'up'), (7, 'down')] -/
def c_above_judging : B :=
 (B.cons (.ex (.call f_check_rank (Es.cons (.var 0) (Es.cons (.var 1) Es.nil)) [] Es.nil))
 (B.cons (.ifS (.cmp .eq (.var 1) (.attr (.var 0) "top"))
 (B.cons (.rai n_Unseen (Es.cons (.bin .add (.var 1) (.con (.int 1))) Es.nil))
 B.nil)
 B.nil)
 (B.cons (.asgT [2, 3] (.tup (Es.cons (.sub (.attr (.var 0) "ups") (.var 1)) (Es.cons (.sub (.attr (.var 0) "downs") (.var 1)) Es.nil))))
 (B.cons (.ret (.blt .tuple (Es.cons (.comp (.blt .tuple (Es.cons (.comp (.blt .sum (Es.cons (.comp (.bin .mul (.var 6) (.var 7)) [6, 7] true (I.zip (.var 4) (.var 5)) Es.nil) Es.nil)) [5] false (I.val (.var 3)) Es.nil) Es.nil)) [4] false (I.val (.var 2)) Es.nil) Es.nil)))
 B.nil))))
/-- below ['web', 'rank']: slots [(0, 'web'), (1, 'rank'), (2, 'places'), (3, 'pairs'), (4, 'down'), (5, 'up'), (6, 'x'), (7, '_'), (8, 'z')] -/
def c_below_judging : B :=
 (B.cons (.ex (.call f_check_rank (Es.cons (.var 0) (Es.cons (.var 1) Es.nil)) [] Es.nil))
 (B.cons (.asg 2 (.frz (.blt .range (Es.cons (.sub (.attr (.var 0) "sizes") (.var 1)) Es.nil))))
 (B.cons (.ifS (.cmp .eq (.var 1) (.con (.int 0)))
 (B.cons (.ret (.blt .tuple (Es.cons (.comp (.bin .mul (.tup (Es.cons (.con (.int 0)) Es.nil)) (.sub (.attr (.var 0) "sizes") (.con (.int 0)))) [7] false (I.val (.var 2)) Es.nil) Es.nil)))
 B.nil)
 B.nil)
 (B.cons (.asg 3 (.frz (.comp (.tup (Es.cons (.var 4) (Es.cons (.var 5) Es.nil))) [4, 5] true (I.zip (.sub (.attr (.var 0) "downs") (.bin .sub (.var 1) (.con (.int 1)))) (.sub (.attr (.var 0) "ups") (.bin .sub (.var 1) (.con (.int 1))))) Es.nil)))
 (B.cons (.ret (.blt .tuple (Es.cons (.comp (.blt .tuple (Es.cons (.comp (.blt .sum (Es.cons (.comp (.bin .mul (.sub (.var 4) (.var 6)) (.sub (.var 5) (.var 8))) [4, 5] true (I.val (.var 3)) Es.nil) Es.nil)) [8] false (I.val (.var 2)) Es.nil) Es.nil)) [6] false (I.val (.var 2)) Es.nil) Es.nil)))
 B.nil)))))
/-- keeps ['web', 'rank', 'q', 'r']: slots [(0, 'web'), (1, 'rank'), (2, 'q'), (3, 'r')] -/
def c_keeps : B :=
 (B.cons (.ret (.cmp .is (.call f_breach (Es.cons (.var 0) (Es.cons (.var 1) (Es.cons (.var 2) (Es.cons (.var 3) Es.nil)))) [] Es.nil) (.con .non)))
 B.nil)
/-- breach ['web', 'rank', 'q', 'r']: slots [(0, 'web'), (1, 'rank'), (2, 'q'), (3, 'r'), (4, 'over')] -/
def c_breach : B :=
 (B.cons (.ex (.call f_check_rank (Es.cons (.var 0) (Es.cons (.var 1) Es.nil)) [] Es.nil))
 (B.cons (.ex (.call f_check_number (Es.cons (.con (.str [113])) (Es.cons (.var 2) (Es.cons (.con (.int 0)) Es.nil))) [] Es.nil))
 (B.cons (.ex (.call f_check_number (Es.cons (.con (.str [114])) (Es.cons (.var 3) (Es.cons (.con .non) Es.nil))) [] Es.nil))
 (B.cons (.asg 4 (.frz (.call f_above_judging (Es.cons (.var 0) (Es.cons (.var 1) Es.nil)) [] Es.nil)))
 (B.cons (.ret (.call f_first_apart (Es.cons (.tup (Es.cons (.call f_below_judging (Es.cons (.var 0) (Es.cons (.var 1) Es.nil)) [] Es.nil) (Es.cons (.var 4) Es.nil))) (Es.cons (.var 2) (Es.cons (.var 3) Es.nil))) [] Es.nil))
 B.nil)))))
/-- _law_fails ['_law_over', '_law_under', '_law_pair_here', '_law_x']: slots [(0, '_law_over'), (1, '_law_under'), (2, '_law_pair_here'), (3, '_law_x'), (4, '_law_fails_here'), (5, '_law_z'), (6, '_law_due')] -/
def c__law_fails : B :=
 (B.cons (.asg 4 (.lst Es.nil))
 (B.cons (.forS [5] false (I.rng (Es.cons (.blt .len (Es.cons (.var 0) Es.nil)) Es.nil))
 (B.cons (.asg 6 (.frz (.bin .mul (.sub (.var 2) (.con (.int 0))) (.sub (.sub (.var 1) (.var 3)) (.var 5)))))
 (B.cons (.ifS (.cmp .eq (.var 3) (.var 5))
 (B.cons (.aug 6 .add (.sub (.var 2) (.con (.int 1))))
 B.nil)
 B.nil)
 (B.cons (.ifS (.cmp .ne (.sub (.sub (.var 0) (.var 3)) (.var 5)) (.var 6))
 (B.cons (.ex (.lm .append (.var 4) (Es.cons (.var 5) Es.nil)))
 B.nil)
 B.nil)
 B.nil))))
 (B.cons (.ret (.var 4))
 B.nil)))
/-- _law_still ['_law_sizes']: slots [(0, '_law_sizes'), (1, '_law_size')] -/
def c__law_still : B :=
 (B.cons (.ret (.comp (.blt .list (Es.cons (.blt .range (Es.cons (.var 1) Es.nil)) Es.nil)) [1] false (I.val (.var 0)) Es.nil))
 B.nil)
/-- _law_table ['_law_height', '_law_width']: slots [(0, '_law_height'), (1, '_law_width'), (2, '_law_rows'), (3, '_law_x'), (4, '_law_y')] -/
def c__law_table : B :=
 (B.cons (.asg 2 (.lst Es.nil))
 (B.cons (.forS [3] false (I.rng (Es.cons (.var 0) Es.nil))
 (B.cons (.ex (.lm .append (.var 2) (Es.cons (.comp (.con (.int 0)) [4] false (I.rng (Es.cons (.var 1) Es.nil)) Es.nil) Es.nil)))
 B.nil))
 (B.cons (.ret (.var 2))
 B.nil)))
/-- _law_gain ['_law_pairs', '_law_start', '_law_steps']: slots [(0, '_law_pairs'), (1, '_law_start'), (2, '_law_steps'), (3, '_law_gain_here'), (4, '_law_k'), (5, '_law_pair_here')] -/
def c__law_gain : B :=
 (B.cons (.asg 3 (.con (.int 0)))
 (B.cons (.forS [4] false (I.rng (Es.cons (.var 2) Es.nil))
 (B.cons (.asg 5 (.frz (.call f__law_pair (Es.cons (.var 0) (Es.cons (.bin .add (.var 1) (.var 4)) Es.nil)) [] Es.nil)))
 (B.cons (.asg 3 (.frz (.bin .add (.bin .mul (.sub (.var 5) (.con (.int 0))) (.var 3)) (.sub (.var 5) (.con (.int 1))))))
 B.nil)))
 (B.cons (.ret (.var 3))
 B.nil)))
/-- fitted ['tables', 'side', 'sizes']: slots [(0, 'tables'), (1, 'side'), (2, 'sizes'), (3, 'told'), (4, 'rank'), (5, 'table'), (6, 'row')] -/
def c_fitted : B :=
 (B.cons (.asg 3 (.lst Es.nil))
 (B.cons (.forS [4] false (I.rng (Es.cons (.blt .len (Es.cons (.var 0) Es.nil)) Es.nil))
 (B.cons (.asg 5 (.frz (.call f_check_table (Es.cons (.sub (.var 0) (.var 4)) (Es.cons (.var 4) (Es.cons (.var 1) Es.nil))) ["least"] (Es.cons (.con (.int 0)) Es.nil))))
 (B.cons (.ifS (.bool false (Es.cons (.cmp .ne (.blt .len (Es.cons (.var 5) Es.nil)) (.sub (.var 2) (.var 4))) (Es.cons (.blt .any (Es.cons (.comp (.cmp .ne (.blt .len (Es.cons (.var 6) Es.nil)) (.sub (.var 2) (.bin .add (.var 4) (.con (.int 1))))) [6] false (I.val (.var 5)) Es.nil) Es.nil)) Es.nil)))
 (B.cons (.rai n_BadTable (Es.cons (.var 4) (Es.cons (.var 1) Es.nil)))
 B.nil)
 B.nil)
 (B.cons (.ex (.lm .append (.var 3) (Es.cons (.var 5) Es.nil)))
 B.nil))))
 (B.cons (.ret (.blt .tuple (Es.cons (.var 3) Es.nil)))
 B.nil)))
/-- is_row ['one']: slots [(0, 'one')] -/
def c_is_row : B :=
 (B.cons (.ret (.blt .isinst (Es.cons (.var 0) (Es.cons (.tup (Es.cons (.glo (.ty "list")) (Es.cons (.glo (.ty "tuple")) Es.nil))) Es.nil))))
 B.nil)
/-- told_sizes ['ups']: slots [(0, 'ups'), (1, 'top'), (2, 'rank'), (3, 'first'), (4, 'table')] -/
def c_told_sizes : B :=
 (B.cons (.asg 1 (.frz (.blt .len (Es.cons (.var 0) Es.nil))))
 (B.cons (.forS [2] false (I.rng (Es.cons (.var 1) Es.nil))
 (B.cons (.ifS (.not (.call f_is_row (Es.cons (.sub (.var 0) (.var 2)) Es.nil) [] Es.nil))
 (B.cons (.rai n_BadTable (Es.cons (.var 2) (Es.cons (.con (.str [117, 112, 115])) Es.nil)))
 B.nil)
 B.nil)
 B.nil))
 (B.cons (.ifS (.bool false (Es.cons (.cmp .eq (.var 1) (.con (.int 0))) (Es.cons (.cmp .eq (.blt .len (Es.cons (.sub (.var 0) (.bin .sub (.var 1) (.con (.int 1)))) Es.nil)) (.con (.int 0))) Es.nil)))
 (B.cons (.rai n_BadSize (Es.cons (.var 1) Es.nil))
 B.nil)
 B.nil)
 (B.cons (.asg 3 (.sub (.sub (.var 0) (.bin .sub (.var 1) (.con (.int 1)))) (.con (.int 0))))
 (B.cons (.ifS (.not (.call f_is_row (Es.cons (.var 3) Es.nil) [] Es.nil))
 (B.cons (.rai n_BadTable (Es.cons (.bin .sub (.var 1) (.con (.int 1))) (Es.cons (.con (.str [117, 112, 115])) Es.nil)))
 B.nil)
 B.nil)
 (B.cons (.ret (.blt .tuple (Es.cons (.bin .add (.frz (.comp (.blt .len (Es.cons (.var 4) Es.nil)) [4] false (I.val (.var 0)) Es.nil)) (.lst (Es.cons (.blt .len (Es.cons (.var 3) Es.nil)) Es.nil))) Es.nil)))
 B.nil))))))
/-- checked_sizes ['sizes', 'top']: slots [(0, 'sizes'), (1, 'top'), (2, 'rank')] -/
def c_checked_sizes : B :=
 (B.cons (.ifS (.bool false (Es.cons (.not (.call f_is_row (Es.cons (.var 0) Es.nil) [] Es.nil)) (Es.cons (.cmp .ne (.blt .len (Es.cons (.var 0) Es.nil)) (.bin .add (.var 1) (.con (.int 1)))) Es.nil)))
 (B.cons (.rai n_BadSize (Es.cons (.neg (.con (.int 1))) Es.nil))
 B.nil)
 B.nil)
 (B.cons (.forS [2] false (I.rng (Es.cons (.bin .add (.var 1) (.con (.int 1))) Es.nil))
 (B.cons (.ifS (.bool false (Es.cons (.not (.call f_is_int (Es.cons (.sub (.var 0) (.var 2)) Es.nil) [] Es.nil)) (Es.cons (.cmp .lt (.sub (.var 0) (.var 2)) (.con (.int 0))) Es.nil)))
 (B.cons (.rai n_BadSize (Es.cons (.var 2) Es.nil))
 B.nil)
 B.nil)
 B.nil))
 (B.cons (.ret (.blt .tuple (Es.cons (.var 0) Es.nil)))
 B.nil)))
/-- first_apart ['told', 'q', 'r']: slots [(0, 'told'), (1, 'q'), (2, 'r'), (3, 'beneath'), (4, 'over'), (5, 'x'), (6, 'row'), (7, 'z'), (8, 'many')] -/
def c_first_apart : B :=
 (B.cons (.asgT [3, 4] (.var 0))
 (B.cons (.forS [5, 6] true (I.enu (.var 4))
 (B.cons (.forS [7, 8] true (I.enu (.var 6))
 (B.cons (.ifS (.cmp .ne (.var 8) (.bin .add (.bin .mul (.var 1) (.sub (.sub (.var 3) (.var 5)) (.var 7))) (.ite (.cmp .eq (.var 5) (.var 7)) (.var 2) (.con (.int 0)))))
 (B.cons (.ret (.tup (Es.cons (.var 5) (Es.cons (.var 7) Es.nil))))
 B.nil)
 B.nil)
 B.nil))
 B.nil))
 (B.cons (.ret (.con .non))
 B.nil)))
/-- told_pair ['pair', 'at']: slots [(0, 'pair'), (1, 'at')] -/
def c_told_pair : B :=
 (B.cons (.ifS (.bool false (Es.cons (.not (.call f_is_row (Es.cons (.var 0) Es.nil) [] Es.nil)) (Es.cons (.cmp .ne (.blt .len (Es.cons (.var 0) Es.nil)) (.con (.int 2))) (Es.cons (.not (.call f_is_int (Es.cons (.sub (.var 0) (.con (.int 0))) Es.nil) [] Es.nil)) (Es.cons (.not (.call f_is_int (Es.cons (.sub (.var 0) (.con (.int 1))) Es.nil) [] Es.nil)) (Es.cons (.cmp .lt (.sub (.var 0) (.con (.int 0))) (.con (.int 0))) Es.nil))))))
 (B.cons (.rai n_BadNumbers (Es.cons (.var 1) Es.nil))
 B.nil)
 B.nil)
 (B.cons (.ret (.blt .tuple (Es.cons (.var 0) Es.nil)))
 B.nil))
/-- check_rank ['web', 'rank']: slots [(0, 'web'), (1, 'rank')] -/
def c_check_rank : B :=
 (B.cons (.ex (.call f_check_height (Es.cons (.var 1) Es.nil) [] Es.nil))
 (B.cons (.ifS (.cmp .gt (.var 1) (.attr (.var 0) "top"))
 (B.cons (.rai n_BadRank (Es.cons (.var 1) Es.nil))
 B.nil)
 B.nil)
 (B.cons (.ret (.var 1))
 B.nil)))
/-- check_number ['name', 'one', 'least']: slots [(0, 'name'), (1, 'one'), (2, 'least')] -/
def c_check_number : B :=
 (B.cons (.ifS (.not (.call f_is_int (Es.cons (.var 1) Es.nil) [] Es.nil))
 (B.cons (.rai n_BadNumber (Es.cons (.var 0) Es.nil))
 B.nil)
 B.nil)
 (B.cons (.ifS (.bool true (Es.cons (.cmp .isn (.var 2) (.con .non)) (Es.cons (.cmp .lt (.var 1) (.var 2)) Es.nil)))
 (B.cons (.rai n_BadNumber (Es.cons (.var 0) Es.nil))
 B.nil)
 B.nil)
 (B.cons (.ret (.var 1))
 B.nil)))
/-- check_table ['table', 'rank', 'side', 'least']: slots [(0, 'table'), (1, 'rank'), (2, 'side'), (3, 'least'), (4, 'rows'), (5, 'row'), (6, 'one')] -/
def c_check_table : B :=
 (B.cons (.ifS (.not (.call f_is_row (Es.cons (.var 0) Es.nil) [] Es.nil))
 (B.cons (.rai n_BadTable (Es.cons (.var 1) (Es.cons (.var 2) Es.nil)))
 B.nil)
 B.nil)
 (B.cons (.asg 4 (.lst Es.nil))
 (B.cons (.forS [5] false (I.val (.var 0))
 (B.cons (.ifS (.bool false (Es.cons (.not (.call f_is_row (Es.cons (.var 5) Es.nil) [] Es.nil)) (Es.cons (.cmp .ne (.blt .len (Es.cons (.var 5) Es.nil)) (.blt .len (Es.cons (.sub (.var 0) (.con (.int 0))) Es.nil))) Es.nil)))
 (B.cons (.rai n_BadTable (Es.cons (.var 1) (Es.cons (.var 2) Es.nil)))
 B.nil)
 B.nil)
 (B.cons (.forS [6] false (I.val (.var 5))
 (B.cons (.ifS (.bool false (Es.cons (.not (.call f_is_int (Es.cons (.var 6) Es.nil) [] Es.nil)) (Es.cons (.bool true (Es.cons (.cmp .isn (.var 3) (.con .non)) (Es.cons (.cmp .lt (.var 6) (.var 3)) Es.nil))) Es.nil)))
 (B.cons (.rai n_BadTable (Es.cons (.var 1) (Es.cons (.var 2) Es.nil)))
 B.nil)
 B.nil)
 B.nil))
 (B.cons (.ex (.lm .append (.var 4) (Es.cons (.blt .tuple (Es.cons (.var 5) Es.nil)) Es.nil)))
 B.nil))))
 (B.cons (.ret (.blt .tuple (Es.cons (.var 4) Es.nil)))
 B.nil))))
/-- is_int ['one']: slots [(0, 'one')] -/
def c_is_int : B :=
 (B.cons (.ret (.bool true (Es.cons (.blt .isinst (Es.cons (.var 0) (Es.cons (.glo (.ty "int")) Es.nil))) (Es.cons (.not (.blt .isinst (Es.cons (.var 0) (Es.cons (.glo (.ty "bool")) Es.nil)))) Es.nil))))
 B.nil)
/-- check_height ['rank']: slots [(0, 'rank')] -/
def c_check_height : B :=
 (B.cons (.ifS (.bool false (Es.cons (.not (.call f_is_int (Es.cons (.var 0) Es.nil) [] Es.nil)) (Es.cons (.cmp .lt (.var 0) (.con (.int 0))) Es.nil)))
 (B.cons (.rai n_BadRank (Es.cons (.var 0) Es.nil))
 B.nil)
 B.nil)
 (B.cons (.ret (.var 0))
 B.nil))
/-- Web.top ['self']: slots [(0, 'self')] -/
def c_Web_top : B :=
 (B.cons (.ret (.blt .len (Es.cons (.attr (.var 0) "ups") Es.nil)))
 B.nil)
/-- Web.__getitem__ ['self', 'at']: slots [(0, 'self'), (1, 'at')] -/
def c_Web___getitem__ : B :=
 (B.cons (.ifS (.bool false (Es.cons (.not (.call f_is_int (Es.cons (.var 1) Es.nil) [] Es.nil)) (Es.cons (.cmp .lt (.var 1) (.con (.int 0))) (Es.cons (.cmp .gt (.var 1) (.blt .len (Es.cons (.attr (.var 0) "ups") Es.nil))) Es.nil))))
 (B.cons (.rai n_BadRank (Es.cons (.var 1) Es.nil))
 B.nil)
 B.nil)
 (B.cons (.ret (.sub (.attr (.var 0) "sizes") (.var 1)))
 B.nil))
/-- Kept.top ['self']: slots [(0, 'self')] -/
def c_Kept_top : B :=
 (B.cons (.ret (.blt .len (Es.cons (.attr (.var 0) "_aboves") Es.nil)))
 B.nil)
/-- Numbers.__getitem__ ['self', 'at']: slots [(0, 'self'), (1, 'at')] -/
def c_Numbers___getitem__ : B :=
 (B.cons (.ifS (.bool false (Es.cons (.not (.call f_is_int (Es.cons (.var 1) Es.nil) [] Es.nil)) (Es.cons (.cmp .lt (.var 1) (.con (.int 0))) Es.nil)))
 (B.cons (.rai n_BadRank (Es.cons (.var 1) Es.nil))
 B.nil)
 B.nil)
 (B.cons (.ret (.ite (.cmp .lt (.var 1) (.blt .len (Es.cons (.attr (.var 0) "pairs") Es.nil))) (.sub (.attr (.var 0) "pairs") (.var 1)) (.attr (.var 0) "tail")))
 B.nil))
def i_law : FnI := ⟨1, 12, false, c_law, [⟨1, [], [.pos 0]⟩]⟩
def i__law_draws : FnI := ⟨1, 6, false, c__law_draws, [⟨1, [], [.pos 0]⟩]⟩
def i__law_case_late : FnI := ⟨1, 8, true, c__law_case_late, [⟨1, [], [.pos 0]⟩]⟩
def i__law_spots : FnI := ⟨1, 5, false, c__law_spots, [⟨1, [], [.pos 0]⟩]⟩
def i_Web___init__ : FnI := ⟨4, 4, true, c_Web___init__, [⟨2, ["downs", "sizes"], [.pos 0, .pos 1, .kw 0, .kw 1]⟩]⟩
def i__law_first_kept : FnI := ⟨1, 3, false, c__law_first_kept, [⟨1, [], [.pos 0]⟩]⟩
def i__law_more : FnI := ⟨3, 5, false, c__law_more, [⟨3, [], [.pos 0, .pos 1, .pos 2]⟩]⟩
def i__law_take : FnI := ⟨2, 2, true, c__law_take, [⟨2, [], [.pos 0, .pos 1]⟩]⟩
def i__law_row_right : FnI := ⟨3, 13, false, c__law_row_right, [⟨3, [], [.pos 0, .pos 1, .pos 2]⟩]⟩
def i__law_exchanged : FnI := ⟨1, 1, false, c__law_exchanged, [⟨1, [], [.pos 0]⟩]⟩
def i__law_menu_unlike : FnI := ⟨1, 3, false, c__law_menu_unlike, [⟨1, [], [.pos 0]⟩]⟩
def i__law_chain : FnI := ⟨3, 11, false, c__law_chain, [⟨3, [], [.pos 0, .pos 1, .pos 2]⟩]⟩
def i__law_may_start : FnI := ⟨3, 5, false, c__law_may_start, [⟨3, [], [.pos 0, .pos 1, .pos 2]⟩]⟩
def i__law_joined : FnI := ⟨2, 14, false, c__law_joined, [⟨2, [], [.pos 0, .pos 1]⟩]⟩
def i_web_parts : FnI := ⟨3, 6, false, c_web_parts, [⟨3, [], [.pos 0, .pos 1, .pos 2]⟩]⟩
def i_Kept___init__ : FnI := ⟨3, 9, true, c_Kept___init__, [⟨3, [], [.pos 0, .pos 1, .pos 2]⟩]⟩
def i_Numbers___init__ : FnI := ⟨3, 6, true, c_Numbers___init__, [⟨2, [], [.pos 0, .pos 1, .dfl (.tup (([1, 1] : List Int).map D.int))]⟩]⟩
def i__law_copy : FnI := ⟨1, 2, false, c__law_copy, [⟨1, [], [.pos 0]⟩]⟩
def i__law_pair : FnI := ⟨2, 2, false, c__law_pair, [⟨2, [], [.pos 0, .pos 1]⟩]⟩
def i_above_judging : FnI := ⟨2, 8, false, c_above_judging, [⟨2, [], [.pos 0, .pos 1]⟩]⟩
def i_below_judging : FnI := ⟨2, 9, false, c_below_judging, [⟨2, [], [.pos 0, .pos 1]⟩]⟩
def i_keeps : FnI := ⟨4, 4, false, c_keeps, [⟨4, [], [.pos 0, .pos 1, .pos 2, .pos 3]⟩]⟩
def i_breach : FnI := ⟨4, 5, false, c_breach, [⟨4, [], [.pos 0, .pos 1, .pos 2, .pos 3]⟩]⟩
def i__law_fails : FnI := ⟨4, 7, false, c__law_fails, [⟨4, [], [.pos 0, .pos 1, .pos 2, .pos 3]⟩]⟩
def i__law_still : FnI := ⟨1, 2, false, c__law_still, [⟨1, [], [.pos 0]⟩]⟩
def i__law_table : FnI := ⟨2, 5, false, c__law_table, [⟨2, [], [.pos 0, .pos 1]⟩]⟩
def i__law_gain : FnI := ⟨3, 6, false, c__law_gain, [⟨3, [], [.pos 0, .pos 1, .pos 2]⟩]⟩
def i_fitted : FnI := ⟨3, 7, false, c_fitted, [⟨3, [], [.pos 0, .pos 1, .pos 2]⟩]⟩
def i_is_row : FnI := ⟨1, 1, false, c_is_row, [⟨1, [], [.pos 0]⟩]⟩
def i_told_sizes : FnI := ⟨1, 5, false, c_told_sizes, [⟨1, [], [.pos 0]⟩]⟩
def i_checked_sizes : FnI := ⟨2, 3, false, c_checked_sizes, [⟨2, [], [.pos 0, .pos 1]⟩]⟩
def i_first_apart : FnI := ⟨3, 9, false, c_first_apart, [⟨3, [], [.pos 0, .pos 1, .pos 2]⟩]⟩
def i_told_pair : FnI := ⟨2, 2, false, c_told_pair, [⟨2, [], [.pos 0, .pos 1]⟩]⟩
def i_check_rank : FnI := ⟨2, 2, false, c_check_rank, [⟨2, [], [.pos 0, .pos 1]⟩]⟩
def i_check_number : FnI := ⟨3, 3, false, c_check_number, [⟨3, [], [.pos 0, .pos 1, .pos 2]⟩]⟩
def i_check_table : FnI := ⟨4, 7, false, c_check_table, [⟨3, ["least"], [.pos 0, .pos 1, .pos 2, .kw 0]⟩]⟩
def i_is_int : FnI := ⟨1, 1, false, c_is_int, [⟨1, [], [.pos 0]⟩]⟩
def i_check_height : FnI := ⟨1, 1, false, c_check_height, [⟨1, [], [.pos 0]⟩]⟩
def i_Web_top : FnI := ⟨1, 1, false, c_Web_top, [⟨1, [], [.pos 0]⟩]⟩
def i_Web___getitem__ : FnI := ⟨2, 2, false, c_Web___getitem__, [⟨2, [], [.pos 0, .pos 1]⟩]⟩
def i_Kept_top : FnI := ⟨1, 1, false, c_Kept_top, [⟨1, [], [.pos 0]⟩]⟩
def i_Numbers___getitem__ : FnI := ⟨2, 2, false, c_Numbers___getitem__, [⟨2, [], [.pos 0, .pos 1]⟩]⟩
def fns : List FnI := [i_law, i__law_draws, i__law_case_late, i__law_spots, i_Web___init__, i__law_first_kept, i__law_more, i__law_take, i__law_row_right, i__law_exchanged, i__law_menu_unlike, i__law_chain, i__law_may_start, i__law_joined, i_web_parts, i_Kept___init__, i_Numbers___init__, i__law_copy, i__law_pair, i_above_judging, i_below_judging, i_keeps, i_breach, i__law_fails, i__law_still, i__law_table, i__law_gain, i_fitted, i_is_row, i_told_sizes, i_checked_sizes, i_first_apart, i_told_pair, i_check_rank, i_check_number, i_check_table, i_is_int, i_check_height, i_Web_top, i_Web___getitem__, i_Kept_top, i_Numbers___getitem__]
def k_Web : ClsI := ⟨3, ["sizes", "ups", "downs"], some 4, [("top", 38)], [], some 39, false⟩
def k_Kept : ClsI := ⟨6, ["web", "numbers", "sizes", "_belows", "_aboves", "_row"], some 15, [("top", 40)], [], none, false⟩
def k_Numbers : ClsI := ⟨2, ["tail", "pairs"], some 16, [], [], some 41, false⟩
def k_NotKept : ClsI := ⟨3, ["rank", "first", "second"], none, [], [], none, true⟩
def k_BadTable : ClsI := ⟨2, ["rank", "side"], none, [], [], none, true⟩
def k_BadNumbers : ClsI := ⟨1, ["at"], none, [], [], none, true⟩
def k_Unseen : ClsI := ⟨1, ["rank"], none, [], [], none, true⟩
def k_BadSize : ClsI := ⟨1, ["rank"], none, [], [], none, true⟩
def k_BadRank : ClsI := ⟨1, ["rank"], none, [], [], none, true⟩
def k_BadNumber : ClsI := ⟨1, ["name"], none, [], [], none, true⟩
def T : Tab := ⟨fns, [k_Web, k_Kept, k_Numbers, k_NotKept, k_BadTable, k_BadNumbers, k_Unseen, k_BadSize, k_BadRank, k_BadNumber], [(3, 3), (4, 4), (5, 5), (6, 6), (7, 7), (8, 8), (9, 9)]⟩
theorem t_law : T.fns[f_law]? = some i_law := rfl
theorem t__law_draws : T.fns[f__law_draws]? = some i__law_draws := rfl
theorem t__law_case_late : T.fns[f__law_case_late]? = some i__law_case_late := rfl
theorem t__law_spots : T.fns[f__law_spots]? = some i__law_spots := rfl
theorem t_Web___init__ : T.fns[f_Web___init__]? = some i_Web___init__ := rfl
theorem t__law_first_kept : T.fns[f__law_first_kept]? = some i__law_first_kept := rfl
theorem t__law_more : T.fns[f__law_more]? = some i__law_more := rfl
theorem t__law_take : T.fns[f__law_take]? = some i__law_take := rfl
theorem t__law_row_right : T.fns[f__law_row_right]? = some i__law_row_right := rfl
theorem t__law_exchanged : T.fns[f__law_exchanged]? = some i__law_exchanged := rfl
theorem t__law_menu_unlike : T.fns[f__law_menu_unlike]? = some i__law_menu_unlike := rfl
theorem t__law_chain : T.fns[f__law_chain]? = some i__law_chain := rfl
theorem t__law_may_start : T.fns[f__law_may_start]? = some i__law_may_start := rfl
theorem t__law_joined : T.fns[f__law_joined]? = some i__law_joined := rfl
theorem t_web_parts : T.fns[f_web_parts]? = some i_web_parts := rfl
theorem t_Kept___init__ : T.fns[f_Kept___init__]? = some i_Kept___init__ := rfl
theorem t_Numbers___init__ : T.fns[f_Numbers___init__]? = some i_Numbers___init__ := rfl
theorem t__law_copy : T.fns[f__law_copy]? = some i__law_copy := rfl
theorem t__law_pair : T.fns[f__law_pair]? = some i__law_pair := rfl
theorem t_above_judging : T.fns[f_above_judging]? = some i_above_judging := rfl
theorem t_below_judging : T.fns[f_below_judging]? = some i_below_judging := rfl
theorem t_keeps : T.fns[f_keeps]? = some i_keeps := rfl
theorem t_breach : T.fns[f_breach]? = some i_breach := rfl
theorem t__law_fails : T.fns[f__law_fails]? = some i__law_fails := rfl
theorem t__law_still : T.fns[f__law_still]? = some i__law_still := rfl
theorem t__law_table : T.fns[f__law_table]? = some i__law_table := rfl
theorem t__law_gain : T.fns[f__law_gain]? = some i__law_gain := rfl
theorem t_fitted : T.fns[f_fitted]? = some i_fitted := rfl
theorem t_is_row : T.fns[f_is_row]? = some i_is_row := rfl
theorem t_told_sizes : T.fns[f_told_sizes]? = some i_told_sizes := rfl
theorem t_checked_sizes : T.fns[f_checked_sizes]? = some i_checked_sizes := rfl
theorem t_first_apart : T.fns[f_first_apart]? = some i_first_apart := rfl
theorem t_told_pair : T.fns[f_told_pair]? = some i_told_pair := rfl
theorem t_check_rank : T.fns[f_check_rank]? = some i_check_rank := rfl
theorem t_check_number : T.fns[f_check_number]? = some i_check_number := rfl
theorem t_check_table : T.fns[f_check_table]? = some i_check_table := rfl
theorem t_is_int : T.fns[f_is_int]? = some i_is_int := rfl
theorem t_check_height : T.fns[f_check_height]? = some i_check_height := rfl
theorem t_Web_top : T.fns[f_Web_top]? = some i_Web_top := rfl
theorem t_Web___getitem__ : T.fns[f_Web___getitem__]? = some i_Web___getitem__ := rfl
theorem t_Kept_top : T.fns[f_Kept_top]? = some i_Kept_top := rfl
theorem t_Numbers___getitem__ : T.fns[f_Numbers___getitem__]? = some i_Numbers___getitem__ := rfl
theorem u_Web : T.cls[n_Web]? = some k_Web := rfl
theorem u_Kept : T.cls[n_Kept]? = some k_Kept := rfl
theorem u_Numbers : T.cls[n_Numbers]? = some k_Numbers := rfl
theorem u_NotKept : T.cls[n_NotKept]? = some k_NotKept := rfl
theorem u_BadTable : T.cls[n_BadTable]? = some k_BadTable := rfl
theorem u_BadNumbers : T.cls[n_BadNumbers]? = some k_BadNumbers := rfl
theorem u_Unseen : T.cls[n_Unseen]? = some k_Unseen := rfl
theorem u_BadSize : T.cls[n_BadSize]? = some k_BadSize := rfl
theorem u_BadRank : T.cls[n_BadRank]? = some k_BadRank := rfl
theorem u_BadNumber : T.cls[n_BadNumber]? = some k_BadNumber := rfl
end Lw
set_option Elab.async false
set_option linter.all false
set_option maxRecDepth 100000
set_option maxHeartbeats 0
/-! the static facts of the law's text: printed by wip/print.py -/
namespace Lw
open PySem PySem.Spec PyProof.Rows L2 VS
def tp (i : Nat) : Stmt := PySem.Challenge.pw_upsanddowns_k12_one_strand_more.main.body.getD i (.Pass ⟨0, 0, 0, 0⟩)
def nm : Nms := ⟨[some ("law" : Str), some ("_law_draws" : Str), some ("_law_case_late" : Str), some ("_law_spots" : Str), none, some ("_law_first_kept" : Str), some ("_law_more" : Str), some ("_law_take" : Str), some ("_law_row_right" : Str), some ("_law_exchanged" : Str), some ("_law_menu_unlike" : Str), some ("_law_chain" : Str), some ("_law_may_start" : Str), some ("_law_joined" : Str), some ("web_parts" : Str), none, none, some ("_law_copy" : Str), some ("_law_pair" : Str), some ("above_judging" : Str), some ("below_judging" : Str), some ("keeps" : Str), some ("breach" : Str), some ("_law_fails" : Str), some ("_law_still" : Str), some ("_law_table" : Str), some ("_law_gain" : Str), some ("fitted" : Str), some ("is_row" : Str), some ("told_sizes" : Str), some ("checked_sizes" : Str), some ("first_apart" : Str), some ("told_pair" : Str), some ("check_rank" : Str), some ("check_number" : Str), some ("check_table" : Str), some ("is_int" : Str), some ("check_height" : Str), none, none, none, none], [some ("Web" : Str), some ("Kept" : Str), some ("Numbers" : Str), some ("NotKept" : Str), some ("BadTable" : Str), some ("BadNumbers" : Str), some ("Unseen" : Str), some ("BadSize" : Str), some ("BadRank" : Str), some ("BadNumber" : Str)], ["any", "bool", "enumerate", "int", "isinstance", "len", "list", "min", "range", "sum", "tuple", "zip"], 3⟩
def d_law : Df := ⟨.glo "law", (tp 64), "law", []⟩
def d__law_draws : Df := ⟨.glo "_law_draws", (tp 46), "_law_draws", []⟩
def d__law_case_late : Df := ⟨.glo "_law_case_late", (tp 58), "_law_case_late", []⟩
def d__law_spots : Df := ⟨.glo "_law_spots", (tp 60), "_law_spots", []⟩
def d_Web___init__ : Df := ⟨.meth "Web" "__init__", (inClass (tp 33) 0), "Web.__init__", [("downs", .non), ("sizes", .non)]⟩
def d__law_first_kept : Df := ⟨.glo "_law_first_kept", (tp 59), "_law_first_kept", []⟩
def d__law_more : Df := ⟨.glo "_law_more", (tp 61), "_law_more", []⟩
def d__law_take : Df := ⟨.glo "_law_take", (tp 47), "_law_take", []⟩
def d__law_row_right : Df := ⟨.glo "_law_row_right", (tp 63), "_law_row_right", []⟩
def d__law_exchanged : Df := ⟨.glo "_law_exchanged", (tp 55), "_law_exchanged", []⟩
def d__law_menu_unlike : Df := ⟨.glo "_law_menu_unlike", (tp 56), "_law_menu_unlike", []⟩
def d__law_chain : Df := ⟨.glo "_law_chain", (tp 53), "_law_chain", []⟩
def d__law_may_start : Df := ⟨.glo "_law_may_start", (tp 57), "_law_may_start", []⟩
def d__law_joined : Df := ⟨.glo "_law_joined", (tp 54), "_law_joined", []⟩
def d_web_parts : Df := ⟨.glo "web_parts", (tp 25), "web_parts", []⟩
def d_Kept___init__ : Df := ⟨.meth "Kept" "__init__", (inClass (tp 44) 0), "Kept.__init__", []⟩
def d_Numbers___init__ : Df := ⟨.meth "Numbers" "__init__", (inClass (tp 20) 0), "Numbers.__init__", [("tail", .adr (kwdAt (.meth "Numbers" "__init__") "tail"))]⟩
def d__law_copy : Df := ⟨.glo "_law_copy", (tp 49), "_law_copy", []⟩
def d__law_pair : Df := ⟨.glo "_law_pair", (tp 51), "_law_pair", []⟩
def d_above_judging : Df := ⟨.glo "above_judging", (tp 38), "above", []⟩
def d_below_judging : Df := ⟨.glo "below_judging", (tp 36), "below", []⟩
def d_keeps : Df := ⟨.glo "keeps", (tp 42), "keeps", []⟩
def d_breach : Df := ⟨.glo "breach", (tp 41), "breach", []⟩
def d__law_fails : Df := ⟨.glo "_law_fails", (tp 62), "_law_fails", []⟩
def d__law_still : Df := ⟨.glo "_law_still", (tp 50), "_law_still", []⟩
def d__law_table : Df := ⟨.glo "_law_table", (tp 48), "_law_table", []⟩
def d__law_gain : Df := ⟨.glo "_law_gain", (tp 52), "_law_gain", []⟩
def d_fitted : Df := ⟨.glo "fitted", (tp 24), "fitted", []⟩
def d_is_row : Df := ⟨.glo "is_row", (tp 14), "is_row", []⟩
def d_told_sizes : Df := ⟨.glo "told_sizes", (tp 22), "told_sizes", []⟩
def d_checked_sizes : Df := ⟨.glo "checked_sizes", (tp 23), "checked_sizes", []⟩
def d_first_apart : Df := ⟨.glo "first_apart", (tp 40), "first_apart", []⟩
def d_told_pair : Df := ⟨.glo "told_pair", (tp 19), "told_pair", []⟩
def d_check_rank : Df := ⟨.glo "check_rank", (tp 34), "check_rank", []⟩
def d_check_number : Df := ⟨.glo "check_number", (tp 15), "check_number", []⟩
def d_check_table : Df := ⟨.glo "check_table", (tp 17), "check_table", [("least", .non)]⟩
def d_is_int : Df := ⟨.glo "is_int", (tp 13), "is_int", []⟩
def d_check_height : Df := ⟨.glo "check_height", (tp 16), "check_height", []⟩
def d_Web_top : Df := ⟨.prop "Web" "top", (inClass (tp 33) 6), "Web.top", []⟩
def d_Web___getitem__ : Df := ⟨.meth "Web" "__getitem__", (inClass (tp 33) 15), "Web.__getitem__", []⟩
def d_Kept_top : Df := ⟨.prop "Kept" "top", (inClass (tp 44) 2), "Kept.top", []⟩
def d_Numbers___getitem__ : Df := ⟨.meth "Numbers" "__getitem__", (inClass (tp 20) 5), "Numbers.__getitem__", []⟩
def x_BadTable : Df := ⟨.meth "BadTable" "__init__", (inClass (tp 6) 0), "BadTable.__init__", []⟩
def x_NotKept : Df := ⟨.meth "NotKept" "__init__", (inClass (tp 11) 0), "NotKept.__init__", []⟩
def x_BadNumbers : Df := ⟨.meth "BadNumbers" "__init__", (inClass (tp 9) 0), "BadNumbers.__init__", []⟩
def x_Unseen : Df := ⟨.meth "Unseen" "__init__", (inClass (tp 10) 0), "Unseen.__init__", []⟩
def x_BadSize : Df := ⟨.meth "BadSize" "__init__", (inClass (tp 7) 0), "BadSize.__init__", []⟩
def x_BadRank : Df := ⟨.meth "BadRank" "__init__", (inClass (tp 8) 0), "BadRank.__init__", []⟩
def x_BadNumber : Df := ⟨.meth "BadNumber" "__init__", (inClass (tp 5) 0), "BadNumber.__init__", []⟩
def prg : Prg := ⟨T, nm, [d_law, d__law_draws, d__law_case_late, d__law_spots, d_Web___init__, d__law_first_kept, d__law_more, d__law_take, d__law_row_right, d__law_exchanged, d__law_menu_unlike, d__law_chain, d__law_may_start, d__law_joined, d_web_parts, d_Kept___init__, d_Numbers___init__, d__law_copy, d__law_pair, d_above_judging, d_below_judging, d_keeps, d_breach, d__law_fails, d__law_still, d__law_table, d__law_gain, d_fitted, d_is_row, d_told_sizes, d_checked_sizes, d_first_apart, d_told_pair, d_check_rank, d_check_number, d_check_table, d_is_int, d_check_height, d_Web_top, d_Web___getitem__, d_Kept_top, d_Numbers___getitem__], ["Web", "Kept", "Numbers", "NotKept", "BadTable", "BadNumbers", "Unseen", "BadSize", "BadRank", "BadNumber"], [x_BadTable, x_NotKept, x_BadNumbers, x_Unseen, x_BadSize, x_BadRank, x_BadNumber], [(kwdAt (.meth "Numbers" "__init__") "tail", [1, 1])]⟩
def xs : List (Nat × Df) := [(4, x_BadTable), (3, x_NotKept), (5, x_BadNumbers), (6, x_Unseen), (7, x_BadSize), (8, x_BadRank), (9, x_BadNumber)]
theorem sc_law : FnScope ["_law_script", "_law_draws_here", "_law_case", "_law_spots_here", "_law_turn", "_law_spot", "_law_many", "_law_more_here", "_law_web", "_law_told", "_law_turned", "_law_row"] ["_law_script"] (defScope d_law.st) := ⟨rfl, rfl, rfl, by decide +kernel, rfl, by decide +kernel, by decide +kernel⟩
theorem ok_law : okB ⟨defScope d_law.st, ["_law_script", "_law_draws_here", "_law_case", "_law_spots_here", "_law_turn", "_law_spot", "_law_many", "_law_more_here", "_law_web", "_law_told", "_law_turned", "_law_row"], fun _ => true, nm, false⟩ i_law.mu (defBody d_law.st) i_law.code = true := by decide +kernel
theorem sc__law_draws : FnScope ["_law_script", "_law_draws_here", "_law_at", "_law_cell", "_law_k", "_law_number"] ["_law_script"] (defScope d__law_draws.st) := ⟨rfl, rfl, rfl, by decide +kernel, rfl, by decide +kernel, by decide +kernel⟩
theorem ok__law_draws : okB ⟨defScope d__law_draws.st, ["_law_script", "_law_draws_here", "_law_at", "_law_cell", "_law_k", "_law_number"], fun _ => true, nm, false⟩ i__law_draws.mu (defBody d__law_draws.st) i__law_draws.code = true := by decide +kernel
theorem sc__law_case_late : FnScope ["_law_draws_here", "_law_word", "_law_case", "_law_top", "_law_k", "_law_pairs", "_law_n", "_law_start"] ["_law_draws_here"] (defScope d__law_case_late.st) := ⟨rfl, rfl, rfl, by decide +kernel, rfl, by decide +kernel, by decide +kernel⟩
theorem ok__law_case_late : okB ⟨defScope d__law_case_late.st, ["_law_draws_here", "_law_word", "_law_case", "_law_top", "_law_k", "_law_pairs", "_law_n", "_law_start"], fun _ => true, nm, false⟩ i__law_case_late.mu (defBody d__law_case_late.st) i__law_case_late.code = true := by decide +kernel
theorem sc__law_spots : FnScope ["_law_case", "_law_spots_here", "_law_rank", "_law_x", "_law_y"] ["_law_case"] (defScope d__law_spots.st) := ⟨rfl, rfl, rfl, by decide +kernel, rfl, by decide +kernel, by decide +kernel⟩
theorem ok__law_spots : okB ⟨defScope d__law_spots.st, ["_law_case", "_law_spots_here", "_law_rank", "_law_x", "_law_y"], fun _ => true, nm, false⟩ i__law_spots.mu (defBody d__law_spots.st) i__law_spots.code = true := by decide +kernel
theorem sc_Web___init__ : FnScope ["self", "ups", "downs", "sizes"] ["self", "ups", "downs", "sizes"] (defScope d_Web___init__.st) := ⟨rfl, rfl, rfl, by decide +kernel, rfl, by decide +kernel, by decide +kernel⟩
theorem ok_Web___init__ : okB ⟨defScope d_Web___init__.st, ["self", "ups", "downs", "sizes"], fun _ => true, nm, false⟩ i_Web___init__.mu (defBody d_Web___init__.st) i_Web___init__.code = true := by decide +kernel
theorem sc__law_first_kept : FnScope ["_law_case", "_law_told", "wrong"] ["_law_case"] (defScope d__law_first_kept.st) := ⟨rfl, rfl, rfl, by decide +kernel, rfl, by decide +kernel, by decide +kernel⟩
theorem ok__law_first_kept : okB ⟨defScope d__law_first_kept.st, ["_law_case", "_law_told", "wrong"], fun _ => true, nm, false⟩ i__law_first_kept.mu (defBody d__law_first_kept.st) i__law_first_kept.code = true := by decide +kernel
theorem sc__law_more : FnScope ["_law_case", "_law_spot", "_law_many", "_law_ups", "_law_table_here"] ["_law_case", "_law_spot", "_law_many"] (defScope d__law_more.st) := ⟨rfl, rfl, rfl, by decide +kernel, rfl, by decide +kernel, by decide +kernel⟩
theorem ok__law_more : okB ⟨defScope d__law_more.st, ["_law_case", "_law_spot", "_law_many", "_law_ups", "_law_table_here"], fun _ => true, nm, false⟩ i__law_more.mu (defBody d__law_more.st) i__law_more.code = true := by decide +kernel
theorem sc__law_take : FnScope ["_law_draws_here", "_law_many"] ["_law_draws_here", "_law_many"] (defScope d__law_take.st) := ⟨rfl, rfl, rfl, by decide +kernel, rfl, by decide +kernel, by decide +kernel⟩
theorem ok__law_take : okB ⟨defScope d__law_take.st, ["_law_draws_here", "_law_many"], fun _ => true, nm, false⟩ i__law_take.mu (defBody d__law_take.st) i__law_take.code = true := by decide +kernel
theorem sc__law_row_right : FnScope ["_law_web", "_law_case", "_law_spot", "_law_rank", "_law_pair_here", "_law_reached", "_law_over", "_law_under", "_law_x", "_law_first", "_law_told", "_law_due", "_law_z"] ["_law_web", "_law_case", "_law_spot"] (defScope d__law_row_right.st) := ⟨rfl, rfl, rfl, by decide +kernel, rfl, by decide +kernel, by decide +kernel⟩
theorem ok__law_row_right : okB ⟨defScope d__law_row_right.st, ["_law_web", "_law_case", "_law_spot", "_law_rank", "_law_pair_here", "_law_reached", "_law_over", "_law_under", "_law_x", "_law_first", "_law_told", "_law_due", "_law_z"], fun _ => true, nm, false⟩ i__law_row_right.mu (defBody d__law_row_right.st) i__law_row_right.code = true := by decide +kernel
theorem sc__law_exchanged : FnScope ["_law_case"] ["_law_case"] (defScope d__law_exchanged.st) := ⟨rfl, rfl, rfl, by decide +kernel, rfl, by decide +kernel, by decide +kernel⟩
theorem ok__law_exchanged : okB ⟨defScope d__law_exchanged.st, ["_law_case"], fun _ => true, nm, false⟩ i__law_exchanged.mu (defBody d__law_exchanged.st) i__law_exchanged.code = true := by decide +kernel
theorem sc__law_menu_unlike : FnScope ["_law_word", "_law_downs", "_law_ups"] ["_law_word"] (defScope d__law_menu_unlike.st) := ⟨rfl, rfl, rfl, by decide +kernel, rfl, by decide +kernel, by decide +kernel⟩
theorem ok__law_menu_unlike : okB ⟨defScope d__law_menu_unlike.st, ["_law_word", "_law_downs", "_law_ups"], fun _ => true, nm, false⟩ i__law_menu_unlike.mu (defBody d__law_menu_unlike.st) i__law_menu_unlike.code = true := by decide +kernel
theorem sc__law_chain : FnScope ["_law_pairs", "_law_start", "_law_top", "_law_sizes", "_law_ups", "_law_downs", "_law_living", "_law_n", "_law_gain_here", "_law_up", "_law_down"] ["_law_pairs", "_law_start", "_law_top"] (defScope d__law_chain.st) := ⟨rfl, rfl, rfl, by decide +kernel, rfl, by decide +kernel, by decide +kernel⟩
theorem ok__law_chain : okB ⟨defScope d__law_chain.st, ["_law_pairs", "_law_start", "_law_top", "_law_sizes", "_law_ups", "_law_downs", "_law_living", "_law_n", "_law_gain_here", "_law_up", "_law_down"], fun _ => true, nm, false⟩ i__law_chain.mu (defBody d__law_chain.st) i__law_chain.code = true := by decide +kernel
theorem sc__law_may_start : FnScope ["_law_pairs", "_law_start", "_law_top", "_law_n", "_law_gain_here"] ["_law_pairs", "_law_start", "_law_top"] (defScope d__law_may_start.st) := ⟨rfl, rfl, rfl, by decide +kernel, rfl, by decide +kernel, by decide +kernel⟩
theorem ok__law_may_start : okB ⟨defScope d__law_may_start.st, ["_law_pairs", "_law_start", "_law_top", "_law_n", "_law_gain_here"], fun _ => true, nm, false⟩ i__law_may_start.mu (defBody d__law_may_start.st) i__law_may_start.code = true := by decide +kernel
theorem sc__law_joined : FnScope ["_law_one", "_law_other", "_law_sizes", "_law_sides", "_law_side", "_law_turns", "_law_n", "_law_tables", "_law_left", "_law_right", "_law_table_here", "_law_y", "_law_row", "_law_z"] ["_law_one", "_law_other"] (defScope d__law_joined.st) := ⟨rfl, rfl, rfl, by decide +kernel, rfl, by decide +kernel, by decide +kernel⟩
theorem ok__law_joined : okB ⟨defScope d__law_joined.st, ["_law_one", "_law_other", "_law_sizes", "_law_sides", "_law_side", "_law_turns", "_law_n", "_law_tables", "_law_left", "_law_right", "_law_table_here", "_law_y", "_law_row", "_law_z"], fun _ => true, nm, false⟩ i__law_joined.mu (defBody d__law_joined.st) i__law_joined.code = true := by decide +kernel
theorem sc_web_parts : FnScope ["ups", "downs", "sizes", "told", "up_tables", "down_tables"] ["ups", "downs", "sizes"] (defScope d_web_parts.st) := ⟨rfl, rfl, rfl, by decide +kernel, rfl, by decide +kernel, by decide +kernel⟩
theorem ok_web_parts : okB ⟨defScope d_web_parts.st, ["ups", "downs", "sizes", "told", "up_tables", "down_tables"], fun _ => true, nm, false⟩ i_web_parts.mu (defBody d_web_parts.st) i_web_parts.code = true := by decide +kernel
theorem sc_Kept___init__ : FnScope ["self", "web", "numbers", "rank", "belows", "aboves", "apart", "q", "r"] ["self", "web", "numbers"] (defScope d_Kept___init__.st) := ⟨rfl, rfl, rfl, by decide +kernel, rfl, by decide +kernel, by decide +kernel⟩
theorem ok_Kept___init__ : okB ⟨defScope d_Kept___init__.st, ["self", "web", "numbers", "rank", "belows", "aboves", "apart", "q", "r"], fun _ => true, nm, false⟩ i_Kept___init__.mu (defBody d_Kept___init__.st) i_Kept___init__.code = true := by decide +kernel
theorem sc_Numbers___init__ : FnScope ["self", "pairs", "tail", "row", "at", "pair"] ["self", "pairs", "tail"] (defScope d_Numbers___init__.st) := ⟨rfl, rfl, rfl, by decide +kernel, rfl, by decide +kernel, by decide +kernel⟩
theorem ok_Numbers___init__ : okB ⟨defScope d_Numbers___init__.st, ["self", "pairs", "tail", "row", "at", "pair"], fun _ => true, nm, false⟩ i_Numbers___init__.mu (defBody d_Numbers___init__.st) i_Numbers___init__.code = true := by decide +kernel
theorem sc__law_copy : FnScope ["_law_table_here", "_law_row"] ["_law_table_here"] (defScope d__law_copy.st) := ⟨rfl, rfl, rfl, by decide +kernel, rfl, by decide +kernel, by decide +kernel⟩
theorem ok__law_copy : okB ⟨defScope d__law_copy.st, ["_law_table_here", "_law_row"], fun _ => true, nm, false⟩ i__law_copy.mu (defBody d__law_copy.st) i__law_copy.code = true := by decide +kernel
theorem sc__law_pair : FnScope ["_law_pairs", "_law_rank"] ["_law_pairs", "_law_rank"] (defScope d__law_pair.st) := ⟨rfl, rfl, rfl, by decide +kernel, rfl, by decide +kernel, by decide +kernel⟩
theorem ok__law_pair : okB ⟨defScope d__law_pair.st, ["_law_pairs", "_law_rank"], fun _ => true, nm, false⟩ i__law_pair.mu (defBody d__law_pair.st) i__law_pair.code = true := by decide +kernel
theorem sc_above_judging : FnScope ["web", "rank", "ups", "downs", "x", "z", "up", "down"] ["web", "rank"] (defScope d_above_judging.st) := ⟨rfl, rfl, rfl, by decide +kernel, rfl, by decide +kernel, by decide +kernel⟩
theorem ok_above_judging : okB ⟨defScope d_above_judging.st, ["web", "rank", "ups", "downs", "x", "z", "up", "down"], fun _ => true, nm, false⟩ i_above_judging.mu (defBody d_above_judging.st) i_above_judging.code = true := by decide +kernel
theorem sc_below_judging : FnScope ["web", "rank", "places", "pairs", "down", "up", "x", "_", "z"] ["web", "rank"] (defScope d_below_judging.st) := ⟨rfl, rfl, rfl, by decide +kernel, rfl, by decide +kernel, by decide +kernel⟩
theorem ok_below_judging : okB ⟨defScope d_below_judging.st, ["web", "rank", "places", "pairs", "down", "up", "x", "_", "z"], fun _ => true, nm, false⟩ i_below_judging.mu (defBody d_below_judging.st) i_below_judging.code = true := by decide +kernel
theorem sc_keeps : FnScope ["web", "rank", "q", "r"] ["web", "rank", "q", "r"] (defScope d_keeps.st) := ⟨rfl, rfl, rfl, by decide +kernel, rfl, by decide +kernel, by decide +kernel⟩
theorem ok_keeps : okB ⟨defScope d_keeps.st, ["web", "rank", "q", "r"], fun _ => true, nm, false⟩ i_keeps.mu (defBody d_keeps.st) i_keeps.code = true := by decide +kernel
theorem sc_breach : FnScope ["web", "rank", "q", "r", "over"] ["web", "rank", "q", "r"] (defScope d_breach.st) := ⟨rfl, rfl, rfl, by decide +kernel, rfl, by decide +kernel, by decide +kernel⟩
theorem ok_breach : okB ⟨defScope d_breach.st, ["web", "rank", "q", "r", "over"], fun _ => true, nm, false⟩ i_breach.mu (defBody d_breach.st) i_breach.code = true := by decide +kernel
theorem sc__law_fails : FnScope ["_law_over", "_law_under", "_law_pair_here", "_law_x", "_law_fails_here", "_law_z", "_law_due"] ["_law_over", "_law_under", "_law_pair_here", "_law_x"] (defScope d__law_fails.st) := ⟨rfl, rfl, rfl, by decide +kernel, rfl, by decide +kernel, by decide +kernel⟩
theorem ok__law_fails : okB ⟨defScope d__law_fails.st, ["_law_over", "_law_under", "_law_pair_here", "_law_x", "_law_fails_here", "_law_z", "_law_due"], fun _ => true, nm, false⟩ i__law_fails.mu (defBody d__law_fails.st) i__law_fails.code = true := by decide +kernel
theorem sc__law_still : FnScope ["_law_sizes", "_law_size"] ["_law_sizes"] (defScope d__law_still.st) := ⟨rfl, rfl, rfl, by decide +kernel, rfl, by decide +kernel, by decide +kernel⟩
theorem ok__law_still : okB ⟨defScope d__law_still.st, ["_law_sizes", "_law_size"], fun _ => true, nm, false⟩ i__law_still.mu (defBody d__law_still.st) i__law_still.code = true := by decide +kernel
theorem sc__law_table : FnScope ["_law_height", "_law_width", "_law_rows", "_law_x", "_law_y"] ["_law_height", "_law_width"] (defScope d__law_table.st) := ⟨rfl, rfl, rfl, by decide +kernel, rfl, by decide +kernel, by decide +kernel⟩
theorem ok__law_table : okB ⟨defScope d__law_table.st, ["_law_height", "_law_width", "_law_rows", "_law_x", "_law_y"], fun _ => true, nm, false⟩ i__law_table.mu (defBody d__law_table.st) i__law_table.code = true := by decide +kernel
theorem sc__law_gain : FnScope ["_law_pairs", "_law_start", "_law_steps", "_law_gain_here", "_law_k", "_law_pair_here"] ["_law_pairs", "_law_start", "_law_steps"] (defScope d__law_gain.st) := ⟨rfl, rfl, rfl, by decide +kernel, rfl, by decide +kernel, by decide +kernel⟩
theorem ok__law_gain : okB ⟨defScope d__law_gain.st, ["_law_pairs", "_law_start", "_law_steps", "_law_gain_here", "_law_k", "_law_pair_here"], fun _ => true, nm, false⟩ i__law_gain.mu (defBody d__law_gain.st) i__law_gain.code = true := by decide +kernel
theorem sc_fitted : FnScope ["tables", "side", "sizes", "told", "rank", "table", "row"] ["tables", "side", "sizes"] (defScope d_fitted.st) := ⟨rfl, rfl, rfl, by decide +kernel, rfl, by decide +kernel, by decide +kernel⟩
theorem ok_fitted : okB ⟨defScope d_fitted.st, ["tables", "side", "sizes", "told", "rank", "table", "row"], fun _ => true, nm, false⟩ i_fitted.mu (defBody d_fitted.st) i_fitted.code = true := by decide +kernel
theorem sc_is_row : FnScope ["one"] ["one"] (defScope d_is_row.st) := ⟨rfl, rfl, rfl, by decide +kernel, rfl, by decide +kernel, by decide +kernel⟩
theorem ok_is_row : okB ⟨defScope d_is_row.st, ["one"], fun _ => true, nm, false⟩ i_is_row.mu (defBody d_is_row.st) i_is_row.code = true := by decide +kernel
theorem sc_told_sizes : FnScope ["ups", "top", "rank", "first", "table"] ["ups"] (defScope d_told_sizes.st) := ⟨rfl, rfl, rfl, by decide +kernel, rfl, by decide +kernel, by decide +kernel⟩
theorem ok_told_sizes : okB ⟨defScope d_told_sizes.st, ["ups", "top", "rank", "first", "table"], fun _ => true, nm, false⟩ i_told_sizes.mu (defBody d_told_sizes.st) i_told_sizes.code = true := by decide +kernel
theorem sc_checked_sizes : FnScope ["sizes", "top", "rank"] ["sizes", "top"] (defScope d_checked_sizes.st) := ⟨rfl, rfl, rfl, by decide +kernel, rfl, by decide +kernel, by decide +kernel⟩
theorem ok_checked_sizes : okB ⟨defScope d_checked_sizes.st, ["sizes", "top", "rank"], fun _ => true, nm, false⟩ i_checked_sizes.mu (defBody d_checked_sizes.st) i_checked_sizes.code = true := by decide +kernel
theorem sc_first_apart : FnScope ["told", "q", "r", "beneath", "over", "x", "row", "z", "many"] ["told", "q", "r"] (defScope d_first_apart.st) := ⟨rfl, rfl, rfl, by decide +kernel, rfl, by decide +kernel, by decide +kernel⟩
theorem ok_first_apart : okB ⟨defScope d_first_apart.st, ["told", "q", "r", "beneath", "over", "x", "row", "z", "many"], fun _ => true, nm, false⟩ i_first_apart.mu (defBody d_first_apart.st) i_first_apart.code = true := by decide +kernel
theorem sc_told_pair : FnScope ["pair", "at"] ["pair", "at"] (defScope d_told_pair.st) := ⟨rfl, rfl, rfl, by decide +kernel, rfl, by decide +kernel, by decide +kernel⟩
theorem ok_told_pair : okB ⟨defScope d_told_pair.st, ["pair", "at"], fun _ => true, nm, false⟩ i_told_pair.mu (defBody d_told_pair.st) i_told_pair.code = true := by decide +kernel
theorem sc_check_rank : FnScope ["web", "rank"] ["web", "rank"] (defScope d_check_rank.st) := ⟨rfl, rfl, rfl, by decide +kernel, rfl, by decide +kernel, by decide +kernel⟩
theorem ok_check_rank : okB ⟨defScope d_check_rank.st, ["web", "rank"], fun _ => true, nm, false⟩ i_check_rank.mu (defBody d_check_rank.st) i_check_rank.code = true := by decide +kernel
theorem sc_check_number : FnScope ["name", "one", "least"] ["name", "one", "least"] (defScope d_check_number.st) := ⟨rfl, rfl, rfl, by decide +kernel, rfl, by decide +kernel, by decide +kernel⟩
theorem ok_check_number : okB ⟨defScope d_check_number.st, ["name", "one", "least"], fun _ => true, nm, false⟩ i_check_number.mu (defBody d_check_number.st) i_check_number.code = true := by decide +kernel
theorem sc_check_table : FnScope ["table", "rank", "side", "least", "rows", "row", "one"] ["table", "rank", "side", "least"] (defScope d_check_table.st) := ⟨rfl, rfl, rfl, by decide +kernel, rfl, by decide +kernel, by decide +kernel⟩
theorem ok_check_table : okB ⟨defScope d_check_table.st, ["table", "rank", "side", "least", "rows", "row", "one"], fun _ => true, nm, false⟩ i_check_table.mu (defBody d_check_table.st) i_check_table.code = true := by decide +kernel
theorem sc_is_int : FnScope ["one"] ["one"] (defScope d_is_int.st) := ⟨rfl, rfl, rfl, by decide +kernel, rfl, by decide +kernel, by decide +kernel⟩
theorem ok_is_int : okB ⟨defScope d_is_int.st, ["one"], fun _ => true, nm, false⟩ i_is_int.mu (defBody d_is_int.st) i_is_int.code = true := by decide +kernel
theorem sc_check_height : FnScope ["rank"] ["rank"] (defScope d_check_height.st) := ⟨rfl, rfl, rfl, by decide +kernel, rfl, by decide +kernel, by decide +kernel⟩
theorem ok_check_height : okB ⟨defScope d_check_height.st, ["rank"], fun _ => true, nm, false⟩ i_check_height.mu (defBody d_check_height.st) i_check_height.code = true := by decide +kernel
theorem sc_Web_top : FnScope ["self"] ["self"] (defScope d_Web_top.st) := ⟨rfl, rfl, rfl, by decide +kernel, rfl, by decide +kernel, by decide +kernel⟩
theorem ok_Web_top : okB ⟨defScope d_Web_top.st, ["self"], fun _ => true, nm, false⟩ i_Web_top.mu (defBody d_Web_top.st) i_Web_top.code = true := by decide +kernel
theorem sc_Web___getitem__ : FnScope ["self", "at"] ["self", "at"] (defScope d_Web___getitem__.st) := ⟨rfl, rfl, rfl, by decide +kernel, rfl, by decide +kernel, by decide +kernel⟩
theorem ok_Web___getitem__ : okB ⟨defScope d_Web___getitem__.st, ["self", "at"], fun _ => true, nm, false⟩ i_Web___getitem__.mu (defBody d_Web___getitem__.st) i_Web___getitem__.code = true := by decide +kernel
theorem sc_Kept_top : FnScope ["self"] ["self"] (defScope d_Kept_top.st) := ⟨rfl, rfl, rfl, by decide +kernel, rfl, by decide +kernel, by decide +kernel⟩
theorem ok_Kept_top : okB ⟨defScope d_Kept_top.st, ["self"], fun _ => true, nm, false⟩ i_Kept_top.mu (defBody d_Kept_top.st) i_Kept_top.code = true := by decide +kernel
theorem sc_Numbers___getitem__ : FnScope ["self", "at"] ["self", "at"] (defScope d_Numbers___getitem__.st) := ⟨rfl, rfl, rfl, by decide +kernel, rfl, by decide +kernel, by decide +kernel⟩
theorem ok_Numbers___getitem__ : okB ⟨defScope d_Numbers___getitem__.st, ["self", "at"], fun _ => true, nm, false⟩ i_Numbers___getitem__.mu (defBody d_Numbers___getitem__.st) i_Numbers___getitem__.code = true := by decide +kernel
theorem fs_law {K : PySem.W.Frag} (c : prg.obs xs K = prg.val) : FnSt (prg.G K) 0 i_law := by
  obtain ⟨g, F⟩ := Prg.says_fn c 0 (d := d_law) rfl
  refine fnSt_of (ps := ["_law_script"]) F sc_law rfl rfl ok_law (List.forall_mem_cons.mpr ⟨sh_of F rfl rfl (fun _ _ _ _ _ _ us ws h1 h2 => match us, h1, ws, h2 with | [_], _, [], _ => rfl), fun _ h => by cases h⟩)
theorem fs__law_draws {K : PySem.W.Frag} (c : prg.obs xs K = prg.val) : FnSt (prg.G K) 1 i__law_draws := by
  obtain ⟨g, F⟩ := Prg.says_fn c 1 (d := d__law_draws) rfl
  refine fnSt_of (ps := ["_law_script"]) F sc__law_draws rfl rfl ok__law_draws (List.forall_mem_cons.mpr ⟨sh_of F rfl rfl (fun _ _ _ _ _ _ us ws h1 h2 => match us, h1, ws, h2 with | [_], _, [], _ => rfl), fun _ h => by cases h⟩)
theorem fs__law_case_late {K : PySem.W.Frag} (c : prg.obs xs K = prg.val) : FnSt (prg.G K) 2 i__law_case_late := by
  obtain ⟨g, F⟩ := Prg.says_fn c 2 (d := d__law_case_late) rfl
  refine fnSt_of (ps := ["_law_draws_here"]) F sc__law_case_late rfl rfl ok__law_case_late (List.forall_mem_cons.mpr ⟨sh_of F rfl rfl (fun _ _ _ _ _ _ us ws h1 h2 => match us, h1, ws, h2 with | [_], _, [], _ => rfl), fun _ h => by cases h⟩)
theorem fs__law_spots {K : PySem.W.Frag} (c : prg.obs xs K = prg.val) : FnSt (prg.G K) 3 i__law_spots := by
  obtain ⟨g, F⟩ := Prg.says_fn c 3 (d := d__law_spots) rfl
  refine fnSt_of (ps := ["_law_case"]) F sc__law_spots rfl rfl ok__law_spots (List.forall_mem_cons.mpr ⟨sh_of F rfl rfl (fun _ _ _ _ _ _ us ws h1 h2 => match us, h1, ws, h2 with | [_], _, [], _ => rfl), fun _ h => by cases h⟩)
theorem fs_Web___init__ {K : PySem.W.Frag} (c : prg.obs xs K = prg.val) : FnSt (prg.G K) 4 i_Web___init__ := by
  obtain ⟨g, F⟩ := Prg.says_fn c 4 (d := d_Web___init__) rfl
  refine fnSt_of (ps := ["self", "ups", "downs", "sizes"]) F sc_Web___init__ rfl rfl ok_Web___init__ (List.forall_mem_cons.mpr ⟨sh_of F rfl rfl (fun _ _ _ _ _ _ us ws h1 h2 => match us, h1, ws, h2 with | [_, _], _, [_, _], _ => rfl), fun _ h => by cases h⟩)
theorem fs__law_first_kept {K : PySem.W.Frag} (c : prg.obs xs K = prg.val) : FnSt (prg.G K) 5 i__law_first_kept := by
  obtain ⟨g, F⟩ := Prg.says_fn c 5 (d := d__law_first_kept) rfl
  refine fnSt_of (ps := ["_law_case"]) F sc__law_first_kept rfl rfl ok__law_first_kept (List.forall_mem_cons.mpr ⟨sh_of F rfl rfl (fun _ _ _ _ _ _ us ws h1 h2 => match us, h1, ws, h2 with | [_], _, [], _ => rfl), fun _ h => by cases h⟩)
theorem fs__law_more {K : PySem.W.Frag} (c : prg.obs xs K = prg.val) : FnSt (prg.G K) 6 i__law_more := by
  obtain ⟨g, F⟩ := Prg.says_fn c 6 (d := d__law_more) rfl
  refine fnSt_of (ps := ["_law_case", "_law_spot", "_law_many"]) F sc__law_more rfl rfl ok__law_more (List.forall_mem_cons.mpr ⟨sh_of F rfl rfl (fun _ _ _ _ _ _ us ws h1 h2 => match us, h1, ws, h2 with | [_, _, _], _, [], _ => rfl), fun _ h => by cases h⟩)
theorem fs__law_take {K : PySem.W.Frag} (c : prg.obs xs K = prg.val) : FnSt (prg.G K) 7 i__law_take := by
  obtain ⟨g, F⟩ := Prg.says_fn c 7 (d := d__law_take) rfl
  refine fnSt_of (ps := ["_law_draws_here", "_law_many"]) F sc__law_take rfl rfl ok__law_take (List.forall_mem_cons.mpr ⟨sh_of F rfl rfl (fun _ _ _ _ _ _ us ws h1 h2 => match us, h1, ws, h2 with | [_, _], _, [], _ => rfl), fun _ h => by cases h⟩)
theorem fs__law_row_right {K : PySem.W.Frag} (c : prg.obs xs K = prg.val) : FnSt (prg.G K) 8 i__law_row_right := by
  obtain ⟨g, F⟩ := Prg.says_fn c 8 (d := d__law_row_right) rfl
  refine fnSt_of (ps := ["_law_web", "_law_case", "_law_spot"]) F sc__law_row_right rfl rfl ok__law_row_right (List.forall_mem_cons.mpr ⟨sh_of F rfl rfl (fun _ _ _ _ _ _ us ws h1 h2 => match us, h1, ws, h2 with | [_, _, _], _, [], _ => rfl), fun _ h => by cases h⟩)
theorem fs__law_exchanged {K : PySem.W.Frag} (c : prg.obs xs K = prg.val) : FnSt (prg.G K) 9 i__law_exchanged := by
  obtain ⟨g, F⟩ := Prg.says_fn c 9 (d := d__law_exchanged) rfl
  refine fnSt_of (ps := ["_law_case"]) F sc__law_exchanged rfl rfl ok__law_exchanged (List.forall_mem_cons.mpr ⟨sh_of F rfl rfl (fun _ _ _ _ _ _ us ws h1 h2 => match us, h1, ws, h2 with | [_], _, [], _ => rfl), fun _ h => by cases h⟩)
theorem fs__law_menu_unlike {K : PySem.W.Frag} (c : prg.obs xs K = prg.val) : FnSt (prg.G K) 10 i__law_menu_unlike := by
  obtain ⟨g, F⟩ := Prg.says_fn c 10 (d := d__law_menu_unlike) rfl
  refine fnSt_of (ps := ["_law_word"]) F sc__law_menu_unlike rfl rfl ok__law_menu_unlike (List.forall_mem_cons.mpr ⟨sh_of F rfl rfl (fun _ _ _ _ _ _ us ws h1 h2 => match us, h1, ws, h2 with | [_], _, [], _ => rfl), fun _ h => by cases h⟩)
theorem fs__law_chain {K : PySem.W.Frag} (c : prg.obs xs K = prg.val) : FnSt (prg.G K) 11 i__law_chain := by
  obtain ⟨g, F⟩ := Prg.says_fn c 11 (d := d__law_chain) rfl
  refine fnSt_of (ps := ["_law_pairs", "_law_start", "_law_top"]) F sc__law_chain rfl rfl ok__law_chain (List.forall_mem_cons.mpr ⟨sh_of F rfl rfl (fun _ _ _ _ _ _ us ws h1 h2 => match us, h1, ws, h2 with | [_, _, _], _, [], _ => rfl), fun _ h => by cases h⟩)
theorem fs__law_may_start {K : PySem.W.Frag} (c : prg.obs xs K = prg.val) : FnSt (prg.G K) 12 i__law_may_start := by
  obtain ⟨g, F⟩ := Prg.says_fn c 12 (d := d__law_may_start) rfl
  refine fnSt_of (ps := ["_law_pairs", "_law_start", "_law_top"]) F sc__law_may_start rfl rfl ok__law_may_start (List.forall_mem_cons.mpr ⟨sh_of F rfl rfl (fun _ _ _ _ _ _ us ws h1 h2 => match us, h1, ws, h2 with | [_, _, _], _, [], _ => rfl), fun _ h => by cases h⟩)
theorem fs__law_joined {K : PySem.W.Frag} (c : prg.obs xs K = prg.val) : FnSt (prg.G K) 13 i__law_joined := by
  obtain ⟨g, F⟩ := Prg.says_fn c 13 (d := d__law_joined) rfl
  refine fnSt_of (ps := ["_law_one", "_law_other"]) F sc__law_joined rfl rfl ok__law_joined (List.forall_mem_cons.mpr ⟨sh_of F rfl rfl (fun _ _ _ _ _ _ us ws h1 h2 => match us, h1, ws, h2 with | [_, _], _, [], _ => rfl), fun _ h => by cases h⟩)
theorem fs_web_parts {K : PySem.W.Frag} (c : prg.obs xs K = prg.val) : FnSt (prg.G K) 14 i_web_parts := by
  obtain ⟨g, F⟩ := Prg.says_fn c 14 (d := d_web_parts) rfl
  refine fnSt_of (ps := ["ups", "downs", "sizes"]) F sc_web_parts rfl rfl ok_web_parts (List.forall_mem_cons.mpr ⟨sh_of F rfl rfl (fun _ _ _ _ _ _ us ws h1 h2 => match us, h1, ws, h2 with | [_, _, _], _, [], _ => rfl), fun _ h => by cases h⟩)
theorem fs_Kept___init__ {K : PySem.W.Frag} (c : prg.obs xs K = prg.val) : FnSt (prg.G K) 15 i_Kept___init__ := by
  obtain ⟨g, F⟩ := Prg.says_fn c 15 (d := d_Kept___init__) rfl
  refine fnSt_of (ps := ["self", "web", "numbers"]) F sc_Kept___init__ rfl rfl ok_Kept___init__ (List.forall_mem_cons.mpr ⟨sh_of F rfl rfl (fun _ _ _ _ _ _ us ws h1 h2 => match us, h1, ws, h2 with | [_, _, _], _, [], _ => rfl), fun _ h => by cases h⟩)
theorem fs_Numbers___init__ {K : PySem.W.Frag} (c : prg.obs xs K = prg.val) : FnSt (prg.G K) 16 i_Numbers___init__ := by
  obtain ⟨g, F⟩ := Prg.says_fn c 16 (d := d_Numbers___init__) rfl
  refine fnSt_of (ps := ["self", "pairs", "tail"]) F sc_Numbers___init__ rfl rfl ok_Numbers___init__ (List.forall_mem_cons.mpr ⟨sh_kw F rfl [("tail", V.ref (kwdAt (.meth "Numbers" "__init__") "tail" K))] (by simp [Df.kws, d_Numbers___init__]) (by intro q hq; simpa [Df.kws, d_Numbers___init__, He.Dv.v] using hq) [.non, .non, V.ref (kwdAt (.meth "Numbers" "__init__") "tail" K)] (fun mv => [.none, .none, mv.getD 0 .none]) (fun mv h => by
      match mv, h with
      | [m0], .cons r0 .nil => exact .cons rfl (.cons rfl (.cons r0 (.nil)))) (fun i d => by
      rcases i with _ | (_ | (_ | i))
      · intro e; simp at e
      · intro e; simp at e
      · intro e; simp at e; subst e; exact ⟨_, rfl, fun H A => Prg.says_tp c (t := (kwdAt (.meth "Numbers" "__init__") "tail", [1, 1])) (by simp [prg]) H A⟩
      · intro e; simp at e) (fun _ _ _ _ _ _ us mv ws h1 h2 h3 => match us, h1, mv, h2, ws, h3 with | [_, _], _, [_], _, [], _ => ⟨_, _, _, _, _, _, rfl, rfl, rfl⟩), fun _ h => by cases h⟩)
theorem fs__law_copy {K : PySem.W.Frag} (c : prg.obs xs K = prg.val) : FnSt (prg.G K) 17 i__law_copy := by
  obtain ⟨g, F⟩ := Prg.says_fn c 17 (d := d__law_copy) rfl
  refine fnSt_of (ps := ["_law_table_here"]) F sc__law_copy rfl rfl ok__law_copy (List.forall_mem_cons.mpr ⟨sh_of F rfl rfl (fun _ _ _ _ _ _ us ws h1 h2 => match us, h1, ws, h2 with | [_], _, [], _ => rfl), fun _ h => by cases h⟩)
theorem fs__law_pair {K : PySem.W.Frag} (c : prg.obs xs K = prg.val) : FnSt (prg.G K) 18 i__law_pair := by
  obtain ⟨g, F⟩ := Prg.says_fn c 18 (d := d__law_pair) rfl
  refine fnSt_of (ps := ["_law_pairs", "_law_rank"]) F sc__law_pair rfl rfl ok__law_pair (List.forall_mem_cons.mpr ⟨sh_of F rfl rfl (fun _ _ _ _ _ _ us ws h1 h2 => match us, h1, ws, h2 with | [_, _], _, [], _ => rfl), fun _ h => by cases h⟩)
theorem fs_above_judging {K : PySem.W.Frag} (c : prg.obs xs K = prg.val) : FnSt (prg.G K) 19 i_above_judging := by
  obtain ⟨g, F⟩ := Prg.says_fn c 19 (d := d_above_judging) rfl
  refine fnSt_of (ps := ["web", "rank"]) F sc_above_judging rfl rfl ok_above_judging (List.forall_mem_cons.mpr ⟨sh_of F rfl rfl (fun _ _ _ _ _ _ us ws h1 h2 => match us, h1, ws, h2 with | [_, _], _, [], _ => rfl), fun _ h => by cases h⟩)
theorem fs_below_judging {K : PySem.W.Frag} (c : prg.obs xs K = prg.val) : FnSt (prg.G K) 20 i_below_judging := by
  obtain ⟨g, F⟩ := Prg.says_fn c 20 (d := d_below_judging) rfl
  refine fnSt_of (ps := ["web", "rank"]) F sc_below_judging rfl rfl ok_below_judging (List.forall_mem_cons.mpr ⟨sh_of F rfl rfl (fun _ _ _ _ _ _ us ws h1 h2 => match us, h1, ws, h2 with | [_, _], _, [], _ => rfl), fun _ h => by cases h⟩)
theorem fs_keeps {K : PySem.W.Frag} (c : prg.obs xs K = prg.val) : FnSt (prg.G K) 21 i_keeps := by
  obtain ⟨g, F⟩ := Prg.says_fn c 21 (d := d_keeps) rfl
  refine fnSt_of (ps := ["web", "rank", "q", "r"]) F sc_keeps rfl rfl ok_keeps (List.forall_mem_cons.mpr ⟨sh_of F rfl rfl (fun _ _ _ _ _ _ us ws h1 h2 => match us, h1, ws, h2 with | [_, _, _, _], _, [], _ => rfl), fun _ h => by cases h⟩)
theorem fs_breach {K : PySem.W.Frag} (c : prg.obs xs K = prg.val) : FnSt (prg.G K) 22 i_breach := by
  obtain ⟨g, F⟩ := Prg.says_fn c 22 (d := d_breach) rfl
  refine fnSt_of (ps := ["web", "rank", "q", "r"]) F sc_breach rfl rfl ok_breach (List.forall_mem_cons.mpr ⟨sh_of F rfl rfl (fun _ _ _ _ _ _ us ws h1 h2 => match us, h1, ws, h2 with | [_, _, _, _], _, [], _ => rfl), fun _ h => by cases h⟩)
theorem fs__law_fails {K : PySem.W.Frag} (c : prg.obs xs K = prg.val) : FnSt (prg.G K) 23 i__law_fails := by
  obtain ⟨g, F⟩ := Prg.says_fn c 23 (d := d__law_fails) rfl
  refine fnSt_of (ps := ["_law_over", "_law_under", "_law_pair_here", "_law_x"]) F sc__law_fails rfl rfl ok__law_fails (List.forall_mem_cons.mpr ⟨sh_of F rfl rfl (fun _ _ _ _ _ _ us ws h1 h2 => match us, h1, ws, h2 with | [_, _, _, _], _, [], _ => rfl), fun _ h => by cases h⟩)
theorem fs__law_still {K : PySem.W.Frag} (c : prg.obs xs K = prg.val) : FnSt (prg.G K) 24 i__law_still := by
  obtain ⟨g, F⟩ := Prg.says_fn c 24 (d := d__law_still) rfl
  refine fnSt_of (ps := ["_law_sizes"]) F sc__law_still rfl rfl ok__law_still (List.forall_mem_cons.mpr ⟨sh_of F rfl rfl (fun _ _ _ _ _ _ us ws h1 h2 => match us, h1, ws, h2 with | [_], _, [], _ => rfl), fun _ h => by cases h⟩)
theorem fs__law_table {K : PySem.W.Frag} (c : prg.obs xs K = prg.val) : FnSt (prg.G K) 25 i__law_table := by
  obtain ⟨g, F⟩ := Prg.says_fn c 25 (d := d__law_table) rfl
  refine fnSt_of (ps := ["_law_height", "_law_width"]) F sc__law_table rfl rfl ok__law_table (List.forall_mem_cons.mpr ⟨sh_of F rfl rfl (fun _ _ _ _ _ _ us ws h1 h2 => match us, h1, ws, h2 with | [_, _], _, [], _ => rfl), fun _ h => by cases h⟩)
theorem fs__law_gain {K : PySem.W.Frag} (c : prg.obs xs K = prg.val) : FnSt (prg.G K) 26 i__law_gain := by
  obtain ⟨g, F⟩ := Prg.says_fn c 26 (d := d__law_gain) rfl
  refine fnSt_of (ps := ["_law_pairs", "_law_start", "_law_steps"]) F sc__law_gain rfl rfl ok__law_gain (List.forall_mem_cons.mpr ⟨sh_of F rfl rfl (fun _ _ _ _ _ _ us ws h1 h2 => match us, h1, ws, h2 with | [_, _, _], _, [], _ => rfl), fun _ h => by cases h⟩)
theorem fs_fitted {K : PySem.W.Frag} (c : prg.obs xs K = prg.val) : FnSt (prg.G K) 27 i_fitted := by
  obtain ⟨g, F⟩ := Prg.says_fn c 27 (d := d_fitted) rfl
  refine fnSt_of (ps := ["tables", "side", "sizes"]) F sc_fitted rfl rfl ok_fitted (List.forall_mem_cons.mpr ⟨sh_of F rfl rfl (fun _ _ _ _ _ _ us ws h1 h2 => match us, h1, ws, h2 with | [_, _, _], _, [], _ => rfl), fun _ h => by cases h⟩)
theorem fs_is_row {K : PySem.W.Frag} (c : prg.obs xs K = prg.val) : FnSt (prg.G K) 28 i_is_row := by
  obtain ⟨g, F⟩ := Prg.says_fn c 28 (d := d_is_row) rfl
  refine fnSt_of (ps := ["one"]) F sc_is_row rfl rfl ok_is_row (List.forall_mem_cons.mpr ⟨sh_of F rfl rfl (fun _ _ _ _ _ _ us ws h1 h2 => match us, h1, ws, h2 with | [_], _, [], _ => rfl), fun _ h => by cases h⟩)
theorem fs_told_sizes {K : PySem.W.Frag} (c : prg.obs xs K = prg.val) : FnSt (prg.G K) 29 i_told_sizes := by
  obtain ⟨g, F⟩ := Prg.says_fn c 29 (d := d_told_sizes) rfl
  refine fnSt_of (ps := ["ups"]) F sc_told_sizes rfl rfl ok_told_sizes (List.forall_mem_cons.mpr ⟨sh_of F rfl rfl (fun _ _ _ _ _ _ us ws h1 h2 => match us, h1, ws, h2 with | [_], _, [], _ => rfl), fun _ h => by cases h⟩)
theorem fs_checked_sizes {K : PySem.W.Frag} (c : prg.obs xs K = prg.val) : FnSt (prg.G K) 30 i_checked_sizes := by
  obtain ⟨g, F⟩ := Prg.says_fn c 30 (d := d_checked_sizes) rfl
  refine fnSt_of (ps := ["sizes", "top"]) F sc_checked_sizes rfl rfl ok_checked_sizes (List.forall_mem_cons.mpr ⟨sh_of F rfl rfl (fun _ _ _ _ _ _ us ws h1 h2 => match us, h1, ws, h2 with | [_, _], _, [], _ => rfl), fun _ h => by cases h⟩)
theorem fs_first_apart {K : PySem.W.Frag} (c : prg.obs xs K = prg.val) : FnSt (prg.G K) 31 i_first_apart := by
  obtain ⟨g, F⟩ := Prg.says_fn c 31 (d := d_first_apart) rfl
  refine fnSt_of (ps := ["told", "q", "r"]) F sc_first_apart rfl rfl ok_first_apart (List.forall_mem_cons.mpr ⟨sh_of F rfl rfl (fun _ _ _ _ _ _ us ws h1 h2 => match us, h1, ws, h2 with | [_, _, _], _, [], _ => rfl), fun _ h => by cases h⟩)
theorem fs_told_pair {K : PySem.W.Frag} (c : prg.obs xs K = prg.val) : FnSt (prg.G K) 32 i_told_pair := by
  obtain ⟨g, F⟩ := Prg.says_fn c 32 (d := d_told_pair) rfl
  refine fnSt_of (ps := ["pair", "at"]) F sc_told_pair rfl rfl ok_told_pair (List.forall_mem_cons.mpr ⟨sh_of F rfl rfl (fun _ _ _ _ _ _ us ws h1 h2 => match us, h1, ws, h2 with | [_, _], _, [], _ => rfl), fun _ h => by cases h⟩)
theorem fs_check_rank {K : PySem.W.Frag} (c : prg.obs xs K = prg.val) : FnSt (prg.G K) 33 i_check_rank := by
  obtain ⟨g, F⟩ := Prg.says_fn c 33 (d := d_check_rank) rfl
  refine fnSt_of (ps := ["web", "rank"]) F sc_check_rank rfl rfl ok_check_rank (List.forall_mem_cons.mpr ⟨sh_of F rfl rfl (fun _ _ _ _ _ _ us ws h1 h2 => match us, h1, ws, h2 with | [_, _], _, [], _ => rfl), fun _ h => by cases h⟩)
theorem fs_check_number {K : PySem.W.Frag} (c : prg.obs xs K = prg.val) : FnSt (prg.G K) 34 i_check_number := by
  obtain ⟨g, F⟩ := Prg.says_fn c 34 (d := d_check_number) rfl
  refine fnSt_of (ps := ["name", "one", "least"]) F sc_check_number rfl rfl ok_check_number (List.forall_mem_cons.mpr ⟨sh_of F rfl rfl (fun _ _ _ _ _ _ us ws h1 h2 => match us, h1, ws, h2 with | [_, _, _], _, [], _ => rfl), fun _ h => by cases h⟩)
theorem fs_check_table {K : PySem.W.Frag} (c : prg.obs xs K = prg.val) : FnSt (prg.G K) 35 i_check_table := by
  obtain ⟨g, F⟩ := Prg.says_fn c 35 (d := d_check_table) rfl
  refine fnSt_of (ps := ["table", "rank", "side", "least"]) F sc_check_table rfl rfl ok_check_table (List.forall_mem_cons.mpr ⟨sh_of F rfl rfl (fun _ _ _ _ _ _ us ws h1 h2 => match us, h1, ws, h2 with | [_, _, _], _, [_], _ => rfl), fun _ h => by cases h⟩)
theorem fs_is_int {K : PySem.W.Frag} (c : prg.obs xs K = prg.val) : FnSt (prg.G K) 36 i_is_int := by
  obtain ⟨g, F⟩ := Prg.says_fn c 36 (d := d_is_int) rfl
  refine fnSt_of (ps := ["one"]) F sc_is_int rfl rfl ok_is_int (List.forall_mem_cons.mpr ⟨sh_of F rfl rfl (fun _ _ _ _ _ _ us ws h1 h2 => match us, h1, ws, h2 with | [_], _, [], _ => rfl), fun _ h => by cases h⟩)
theorem fs_check_height {K : PySem.W.Frag} (c : prg.obs xs K = prg.val) : FnSt (prg.G K) 37 i_check_height := by
  obtain ⟨g, F⟩ := Prg.says_fn c 37 (d := d_check_height) rfl
  refine fnSt_of (ps := ["rank"]) F sc_check_height rfl rfl ok_check_height (List.forall_mem_cons.mpr ⟨sh_of F rfl rfl (fun _ _ _ _ _ _ us ws h1 h2 => match us, h1, ws, h2 with | [_], _, [], _ => rfl), fun _ h => by cases h⟩)
theorem fs_Web_top {K : PySem.W.Frag} (c : prg.obs xs K = prg.val) : FnSt (prg.G K) 38 i_Web_top := by
  obtain ⟨g, F⟩ := Prg.says_fn c 38 (d := d_Web_top) rfl
  refine fnSt_of (ps := ["self"]) F sc_Web_top rfl rfl ok_Web_top (List.forall_mem_cons.mpr ⟨sh_of F rfl rfl (fun _ _ _ _ _ _ us ws h1 h2 => match us, h1, ws, h2 with | [_], _, [], _ => rfl), fun _ h => by cases h⟩)
theorem fs_Web___getitem__ {K : PySem.W.Frag} (c : prg.obs xs K = prg.val) : FnSt (prg.G K) 39 i_Web___getitem__ := by
  obtain ⟨g, F⟩ := Prg.says_fn c 39 (d := d_Web___getitem__) rfl
  refine fnSt_of (ps := ["self", "at"]) F sc_Web___getitem__ rfl rfl ok_Web___getitem__ (List.forall_mem_cons.mpr ⟨sh_of F rfl rfl (fun _ _ _ _ _ _ us ws h1 h2 => match us, h1, ws, h2 with | [_, _], _, [], _ => rfl), fun _ h => by cases h⟩)
theorem fs_Kept_top {K : PySem.W.Frag} (c : prg.obs xs K = prg.val) : FnSt (prg.G K) 40 i_Kept_top := by
  obtain ⟨g, F⟩ := Prg.says_fn c 40 (d := d_Kept_top) rfl
  refine fnSt_of (ps := ["self"]) F sc_Kept_top rfl rfl ok_Kept_top (List.forall_mem_cons.mpr ⟨sh_of F rfl rfl (fun _ _ _ _ _ _ us ws h1 h2 => match us, h1, ws, h2 with | [_], _, [], _ => rfl), fun _ h => by cases h⟩)
theorem fs_Numbers___getitem__ {K : PySem.W.Frag} (c : prg.obs xs K = prg.val) : FnSt (prg.G K) 41 i_Numbers___getitem__ := by
  obtain ⟨g, F⟩ := Prg.says_fn c 41 (d := d_Numbers___getitem__) rfl
  refine fnSt_of (ps := ["self", "at"]) F sc_Numbers___getitem__ rfl rfl ok_Numbers___getitem__ (List.forall_mem_cons.mpr ⟨sh_of F rfl rfl (fun _ _ _ _ _ _ us ws h1 h2 => match us, h1, ws, h2 with | [_, _], _, [], _ => rfl), fun _ h => by cases h⟩)
theorem xk_BadTable {K : PySem.W.Frag} {P : Program} {w : World} {mg : Str → Option Value} {base : Heap} (c : prg.obs xs K = prg.val) (hno : ∀ f ∈ k_BadTable.fl, PySem.W.findIn K (.ref ((prg.R K).ca 4)) f = some none) : XMk K P w mg base 1 ((prg.R K).ca 4) k_BadTable.fl := by
  obtain ⟨g, F⟩ := Prg.says_fn c 42 (d := x_BadTable) rfl
  exact xmk_of (ps := ["self", "rank", "side"]) (Prg.says_xi c (q := (4, x_BadTable)) (by simp [xs]) (cl := k_BadTable) rfl) F ⟨rfl, rfl, rfl, by decide +kernel, rfl, by decide +kernel, by decide +kernel⟩ rfl (by decide) (by decide +kernel) (by decide) hno (by decide +kernel) (fun _ _ _ _ _ _ us hl => match us, hl with | [_, _, _], _ => rfl)
theorem xk_NotKept {K : PySem.W.Frag} {P : Program} {w : World} {mg : Str → Option Value} {base : Heap} (c : prg.obs xs K = prg.val) (hno : ∀ f ∈ k_NotKept.fl, PySem.W.findIn K (.ref ((prg.R K).ca 3)) f = some none) : XMk K P w mg base 1 ((prg.R K).ca 3) k_NotKept.fl := by
  obtain ⟨g, F⟩ := Prg.says_fn c 43 (d := x_NotKept) rfl
  exact xmk_of (ps := ["self", "rank", "first", "second"]) (Prg.says_xi c (q := (3, x_NotKept)) (by simp [xs]) (cl := k_NotKept) rfl) F ⟨rfl, rfl, rfl, by decide +kernel, rfl, by decide +kernel, by decide +kernel⟩ rfl (by decide) (by decide +kernel) (by decide) hno (by decide +kernel) (fun _ _ _ _ _ _ us hl => match us, hl with | [_, _, _, _], _ => rfl)
theorem xk_BadNumbers {K : PySem.W.Frag} {P : Program} {w : World} {mg : Str → Option Value} {base : Heap} (c : prg.obs xs K = prg.val) (hno : ∀ f ∈ k_BadNumbers.fl, PySem.W.findIn K (.ref ((prg.R K).ca 5)) f = some none) : XMk K P w mg base 1 ((prg.R K).ca 5) k_BadNumbers.fl := by
  obtain ⟨g, F⟩ := Prg.says_fn c 44 (d := x_BadNumbers) rfl
  exact xmk_of (ps := ["self", "at"]) (Prg.says_xi c (q := (5, x_BadNumbers)) (by simp [xs]) (cl := k_BadNumbers) rfl) F ⟨rfl, rfl, rfl, by decide +kernel, rfl, by decide +kernel, by decide +kernel⟩ rfl (by decide) (by decide +kernel) (by decide) hno (by decide +kernel) (fun _ _ _ _ _ _ us hl => match us, hl with | [_, _], _ => rfl)
theorem xk_Unseen {K : PySem.W.Frag} {P : Program} {w : World} {mg : Str → Option Value} {base : Heap} (c : prg.obs xs K = prg.val) (hno : ∀ f ∈ k_Unseen.fl, PySem.W.findIn K (.ref ((prg.R K).ca 6)) f = some none) : XMk K P w mg base 1 ((prg.R K).ca 6) k_Unseen.fl := by
  obtain ⟨g, F⟩ := Prg.says_fn c 45 (d := x_Unseen) rfl
  exact xmk_of (ps := ["self", "rank"]) (Prg.says_xi c (q := (6, x_Unseen)) (by simp [xs]) (cl := k_Unseen) rfl) F ⟨rfl, rfl, rfl, by decide +kernel, rfl, by decide +kernel, by decide +kernel⟩ rfl (by decide) (by decide +kernel) (by decide) hno (by decide +kernel) (fun _ _ _ _ _ _ us hl => match us, hl with | [_, _], _ => rfl)
theorem xk_BadSize {K : PySem.W.Frag} {P : Program} {w : World} {mg : Str → Option Value} {base : Heap} (c : prg.obs xs K = prg.val) (hno : ∀ f ∈ k_BadSize.fl, PySem.W.findIn K (.ref ((prg.R K).ca 7)) f = some none) : XMk K P w mg base 1 ((prg.R K).ca 7) k_BadSize.fl := by
  obtain ⟨g, F⟩ := Prg.says_fn c 46 (d := x_BadSize) rfl
  exact xmk_of (ps := ["self", "rank"]) (Prg.says_xi c (q := (7, x_BadSize)) (by simp [xs]) (cl := k_BadSize) rfl) F ⟨rfl, rfl, rfl, by decide +kernel, rfl, by decide +kernel, by decide +kernel⟩ rfl (by decide) (by decide +kernel) (by decide) hno (by decide +kernel) (fun _ _ _ _ _ _ us hl => match us, hl with | [_, _], _ => rfl)
theorem xk_BadRank {K : PySem.W.Frag} {P : Program} {w : World} {mg : Str → Option Value} {base : Heap} (c : prg.obs xs K = prg.val) (hno : ∀ f ∈ k_BadRank.fl, PySem.W.findIn K (.ref ((prg.R K).ca 8)) f = some none) : XMk K P w mg base 1 ((prg.R K).ca 8) k_BadRank.fl := by
  obtain ⟨g, F⟩ := Prg.says_fn c 47 (d := x_BadRank) rfl
  exact xmk_of (ps := ["self", "rank"]) (Prg.says_xi c (q := (8, x_BadRank)) (by simp [xs]) (cl := k_BadRank) rfl) F ⟨rfl, rfl, rfl, by decide +kernel, rfl, by decide +kernel, by decide +kernel⟩ rfl (by decide) (by decide +kernel) (by decide) hno (by decide +kernel) (fun _ _ _ _ _ _ us hl => match us, hl with | [_, _], _ => rfl)
theorem xk_BadNumber {K : PySem.W.Frag} {P : Program} {w : World} {mg : Str → Option Value} {base : Heap} (c : prg.obs xs K = prg.val) (hno : ∀ f ∈ k_BadNumber.fl, PySem.W.findIn K (.ref ((prg.R K).ca 9)) f = some none) : XMk K P w mg base 1 ((prg.R K).ca 9) k_BadNumber.fl := by
  obtain ⟨g, F⟩ := Prg.says_fn c 48 (d := x_BadNumber) rfl
  exact xmk_of (ps := ["self", "name"]) (Prg.says_xi c (q := (9, x_BadNumber)) (by simp [xs]) (cl := k_BadNumber) rfl) F ⟨rfl, rfl, rfl, by decide +kernel, rfl, by decide +kernel, by decide +kernel⟩ rfl (by decide) (by decide +kernel) (by decide) hno (by decide +kernel) (fun _ _ _ _ _ _ us hl => match us, hl with | [_, _], _ => rfl)
theorem fnAll {K : PySem.W.Frag} (c : prg.obs xs K = prg.val) : ∀ f fn, prg.T.fns[f]? = some fn → FnSt (prg.G K) f fn := fun f fn e => by
  have e : fns[f]? = some fn := e
  match f, e with
  | 0, e => cases (Option.some.inj e); exact fs_law c
  | 1, e => cases (Option.some.inj e); exact fs__law_draws c
  | 2, e => cases (Option.some.inj e); exact fs__law_case_late c
  | 3, e => cases (Option.some.inj e); exact fs__law_spots c
  | 4, e => cases (Option.some.inj e); exact fs_Web___init__ c
  | 5, e => cases (Option.some.inj e); exact fs__law_first_kept c
  | 6, e => cases (Option.some.inj e); exact fs__law_more c
  | 7, e => cases (Option.some.inj e); exact fs__law_take c
  | 8, e => cases (Option.some.inj e); exact fs__law_row_right c
  | 9, e => cases (Option.some.inj e); exact fs__law_exchanged c
  | 10, e => cases (Option.some.inj e); exact fs__law_menu_unlike c
  | 11, e => cases (Option.some.inj e); exact fs__law_chain c
  | 12, e => cases (Option.some.inj e); exact fs__law_may_start c
  | 13, e => cases (Option.some.inj e); exact fs__law_joined c
  | 14, e => cases (Option.some.inj e); exact fs_web_parts c
  | 15, e => cases (Option.some.inj e); exact fs_Kept___init__ c
  | 16, e => cases (Option.some.inj e); exact fs_Numbers___init__ c
  | 17, e => cases (Option.some.inj e); exact fs__law_copy c
  | 18, e => cases (Option.some.inj e); exact fs__law_pair c
  | 19, e => cases (Option.some.inj e); exact fs_above_judging c
  | 20, e => cases (Option.some.inj e); exact fs_below_judging c
  | 21, e => cases (Option.some.inj e); exact fs_keeps c
  | 22, e => cases (Option.some.inj e); exact fs_breach c
  | 23, e => cases (Option.some.inj e); exact fs__law_fails c
  | 24, e => cases (Option.some.inj e); exact fs__law_still c
  | 25, e => cases (Option.some.inj e); exact fs__law_table c
  | 26, e => cases (Option.some.inj e); exact fs__law_gain c
  | 27, e => cases (Option.some.inj e); exact fs_fitted c
  | 28, e => cases (Option.some.inj e); exact fs_is_row c
  | 29, e => cases (Option.some.inj e); exact fs_told_sizes c
  | 30, e => cases (Option.some.inj e); exact fs_checked_sizes c
  | 31, e => cases (Option.some.inj e); exact fs_first_apart c
  | 32, e => cases (Option.some.inj e); exact fs_told_pair c
  | 33, e => cases (Option.some.inj e); exact fs_check_rank c
  | 34, e => cases (Option.some.inj e); exact fs_check_number c
  | 35, e => cases (Option.some.inj e); exact fs_check_table c
  | 36, e => cases (Option.some.inj e); exact fs_is_int c
  | 37, e => cases (Option.some.inj e); exact fs_check_height c
  | 38, e => cases (Option.some.inj e); exact fs_Web_top c
  | 39, e => cases (Option.some.inj e); exact fs_Web___getitem__ c
  | 40, e => cases (Option.some.inj e); exact fs_Kept_top c
  | 41, e => cases (Option.some.inj e); exact fs_Numbers___getitem__ c
  | n + 42, e => simp [fns] at e
theorem xmAll {K : PySem.W.Frag} {P : Program} {w : World} {mg : Str → Option Value} {base : Heap} (c : prg.obs xs K = prg.val) (xf : xfsB prg K = true) : ∀ c cl, prg.T.cls[c]? = some cl → cl.ex = true → cl.fl ≠ [] → XMk K P w mg base 1 ((prg.R K).ca c) cl.fl := fun k cl e hx hne => by
  have hno : ∀ f ∈ cl.fl, PySem.W.findIn K (.ref ((prg.R K).ca k)) f = some none := fun f hf => by
    have h := allIx_ok xf k cl e
    rw [Nat.zero_add, hx, Bool.not_true, Bool.false_or, Bool.and_eq_true] at h
    exact of_decide_eq_true (List.all_eq_true.mp h.2 f hf)
  have e : ([k_Web, k_Kept, k_Numbers, k_NotKept, k_BadTable, k_BadNumbers, k_Unseen, k_BadSize, k_BadRank, k_BadNumber] : List ClsI)[k]? = some cl := e
  match k, e, hno with
  | 0, e, hno => cases (Option.some.inj e); first | exact absurd rfl hne | cases hx
  | 1, e, hno => cases (Option.some.inj e); first | exact absurd rfl hne | cases hx
  | 2, e, hno => cases (Option.some.inj e); first | exact absurd rfl hne | cases hx
  | 3, e, hno => cases (Option.some.inj e); exact xk_NotKept c hno
  | 4, e, hno => cases (Option.some.inj e); exact xk_BadTable c hno
  | 5, e, hno => cases (Option.some.inj e); exact xk_BadNumbers c hno
  | 6, e, hno => cases (Option.some.inj e); exact xk_Unseen c hno
  | 7, e, hno => cases (Option.some.inj e); exact xk_BadSize c hno
  | 8, e, hno => cases (Option.some.inj e); exact xk_BadRank c hno
  | 9, e, hno => cases (Option.some.inj e); exact xk_BadNumber c hno
  | n + 10, e, hno => simp at e
theorem wds {K : PySem.W.Frag} {P : Program} {w : World} {mg : Str → Option Value} {base h : Heap} (X : K.In h) (Gn : h.Ns mainGlobals mg) (c : prg.obs xs K = prg.val) : WdS (prg.G K) P w mg base := by
  have k := Prg.says_ok c
  have xf : xfsB prg K = true := by
    unfold Prg.ok at k
    simp only [Bool.and_eq_true] at k
    exact k.2.2.2
  exact Prg.wds X Gn k (fnAll c) (xmAll c xf)
end Lw
set_option Elab.async false
set_option linter.all false
set_option maxRecDepth 100000
set_option maxHeartbeats 0
/-! the head: printed by wip/print.py -/
namespace Lw
open PySem PySem.Spec PyProof.Rows L2 VS
def nms0 : List PySem.Str := ["_wall", "RanksError", "BadForm", "UnmetNeed", "BadNumber", "BadTable", "BadSize", "BadRank", "BadNumbers", "Unseen", "NotKept", "is_int", "is_row", "check_number", "check_height", "check_table", "told_pair", "Numbers", "told_sizes", "checked_sizes", "fitted", "web_parts", "beside_sizes", "beside_tables", "product_places", "product_sizes", "pair_strands", "product_tables", "Web", "check_rank"]
def nms1 : List PySem.Str := ["below", "below_judging", "above", "above_judging", "first_apart", "breach", "keeps", "Kept", "_law_draws", "_law_take", "_law_table", "_law_copy", "_law_still", "_law_pair", "_law_gain", "_law_chain", "_law_joined", "_law_exchanged", "_law_menu_unlike", "_law_may_start", "_law_case_late", "_law_first_kept", "_law_spots", "_law_more", "_law_fails", "_law_row_right"]
def names : List PySem.Str := nms0 ++ nms1
abbrev LRow : PySem.W.OpenRow := PySem.W.OpenLaw.row PySem.Challenge.rw_upsanddowns_k12_one_strand_more
theorem run (w : World) : HandSHeadRun.RunEq LRow (PySem.W.view LRow.prog [64]) (prg.hook xs 7) (prg.ob xs 7) 30000 names w := by
  intro os
  kernel_rfl
theorem head (hc : ∀ ns : List Int, ns.length ≤ 63 → ∃ fin, callF T 31 f_law [.lst false (ns.map D.int)] = .ok (.bl true) fin) : PySem.Challenge.rw_upsanddowns_k12_one_strand_more.Holds := by
  w_on; o_law
  refine HandSHeadRun.head_any (r := LRow) (q := PySem.W.view LRow.prog [64]) (H := prg.hook xs 7) (ob := prg.ob xs 7) (M := 30000) (loose := names) (d := HandSHeadRun.topDef LRow.prog 64) (kwd := []) (prg.ob_eq xs 7) (by kernel_rfl) (fun s => by kernel_rfl) run (by kernel_rfl)
    (by kernel_rfl) (by kernel_rfl) (by rfl) (by first | assumption | decide +kernel) (by decide +kernel) ⟨rfl, rfl, rfl, rfl, rfl, by decide +kernel⟩ ?hw ?hc
  case hw => w_witness2
  case hc =>
    have ed : (HandSHeadRun.topDef LRow.prog 64).name = ("law" : PySem.Str) := by kernel_rfl
    exact walk_vs (l := PySem.Challenge.rw_upsanddowns_k12_one_strand_more) (n := 63) (N := 30) (x := "_law_script") (p := prg) (xs := xs) (m := 7) (f0 := f_law) (fn0 := i_law) (d0 := d_law) (Ns := ["_law_script", "_law_draws_here", "_law_case", "_law_spots_here", "_law_turn", "_law_spot", "_law_many", "_law_more_here", "_law_web", "_law_told", "_law_turned", "_law_row"]) rfl (by decide) (by kernel_rfl) ⟨rfl, by decide, by decide⟩ rfl rfl rfl rfl rfl (by rw [ed]; rfl) (by rw [ed]; rfl) sc_law rfl ok_law
      (fun _ _ _ _ _ _ us hl => match us, hl with | [_], _ => rfl) (fun w mg K h X G c base => wds X G c) hc
end Lw
set_option Elab.async false
set_option linter.all false
set_option maxRecDepth 100000
set_option maxHeartbeats 2000000
/-! VPa: lists by their places, rules for loops: the plain side. -/
namespace VS
open PySem PySem.Spec PyProof.Rows L2
/-- n things -/
def ln {α : Type} (n : Nat) (f : Nat → α) : List α := (List.range n).map f
section
variable {α β : Type} {n m i : Nat} {f g : Nat → α}
@[simp] theorem ln_length : (ln n f).length = n := by simp [ln]
@[simp] theorem ln_zero : ln 0 f = [] := rfl
theorem ln_get (h : i < n) : (ln n f)[i]? = some (f i) := by simp [ln, h]
theorem ln_succ : ln (n + 1) f = ln n f ++ [f n] := by simp [ln, List.range_succ]
theorem ln_snoc : ln n f ++ [f n] = ln (n + 1) f := ln_succ.symm
theorem ln_cons : ln (n + 1) f = f 0 :: ln n fun i => f (i + 1) := by simp [ln, List.range_succ_eq_map]
@[simp] theorem ln_map {k : α → β} : (ln n f).map k = ln n fun i => k (f i) := by simp [ln]
theorem ln_congr (h : ∀ i, i < n → f i = g i) : ln n f = ln n g := by
  unfold ln
  exact List.map_congr_left fun i hi => h i (List.mem_range.mp hi)
theorem ln_append : ln n f ++ ln m g = ln (n + m) fun i => if i < n then f i else g (i - n) := by
  apply List.ext_getElem?
  intro i
  by_cases h : i < n
  · rw [List.getElem?_append_left (by simpa using h), ln_get h, ln_get (by omega), if_pos h]
  · rw [List.getElem?_append_right (by simpa using h), ln_length]
    by_cases h2 : i < n + m
    · rw [ln_get h2, ln_get (by omega), if_neg h]
    · rw [List.getElem?_eq_none (by simp; omega), List.getElem?_eq_none (by simp; omega)]
theorem ln_mem {a : α} : a ∈ ln n f ↔ ∃ i, i < n ∧ f i = a := by simp [ln]
theorem ln_reverse : (ln n f).reverse = ln n fun i => f (n - 1 - i) := by
  apply List.ext_getElem?
  intro i
  by_cases h : i < n
  · rw [List.getElem?_reverse (by simpa using h), ln_length, ln_get (by omega), ln_get h]
  · rw [List.getElem?_eq_none (by simp; omega), List.getElem?_eq_none (by simp; omega)]
theorem ln_set (h : i < n) {a : α} : (ln n f).set i a = ln n fun j => if j = i then a else f j := by
  apply List.ext_getElem?
  intro j
  by_cases hj : j < n
  · rw [ln_get hj]
    by_cases e : j = i
    · subst e
      rw [List.getElem?_set_self (by simpa using h), if_pos rfl]
    · rw [List.getElem?_set_ne (Ne.symm e), ln_get hj, if_neg e]
  · rw [List.getElem?_eq_none (by simp; omega), List.getElem?_eq_none (by simp; omega)]
@[simp] theorem ln_isEmpty : (ln n f).isEmpty = decide (n = 0) := by
  cases n with
  | zero => rfl
  | succ n => rw [ln_cons]; rfl
@[simp] theorem ln_getLast : (ln (n + 1) f).getLast? = some (f n) := by rw [ln_succ]; simp
@[simp] theorem ln_dropLast : (ln (n + 1) f).dropLast = ln n f := by rw [ln_succ]; simp
theorem ln_of (l : List α) (d : α) : l = ln l.length fun i => l.getD i d := by
  apply List.ext_getElem?
  intro i
  by_cases h : i < l.length
  · rw [ln_get h, List.getElem?_eq_getElem h, List.getD_eq_getElem?_getD, List.getElem?_eq_getElem h]; rfl
  · rw [List.getElem?_eq_none (by omega), List.getElem?_eq_none (by simp; omega)]
end
/-! ### trees -/
/-- all below n -/
def ballN (n : Nat) (p : Nat → Bool) : Bool := (List.range n).all p
@[simp] theorem ballN_true {n : Nat} : ballN n (fun _ => true) = true := by simp [ballN]
theorem ballN_iff {n : Nat} {p : Nat → Bool} : ballN n p = true ↔ ∀ i, i < n → p i = true := by simp [ballN]
theorem allFz_ln {n : Nat} {f : Nat → D} (h : ∀ i, i < n → (f i).isFz = true) : D.allFz (ln n f) = true := by
  induction n generalizing f with
  | zero => rfl
  | succ n ih =>
    rw [ln_cons]
    show ((f 0).isFz && _) = true
    rw [h 0 (by omega), ih fun i hi => h (i + 1) (by omega)]; rfl
@[simp] theorem allFz_lnB {n : Nat} {f : Nat → D} : D.allFz (ln n f) = ballN n fun i => (f i).isFz := by
  induction n generalizing f with
  | zero => rfl
  | succ n ih =>
    rw [ln_cons]
    show ((f 0).isFz && _) = _
    rw [ih]
    simp only [ballN, List.range_succ_eq_map, List.all_cons, List.all_map]
    rfl
@[simp] theorem allFz_app {a b : List D} : D.allFz (a ++ b) = (D.allFz a && D.allFz b) := by
  induction a with
  | nil => rfl
  | cons x a ih => show (x.isFz && D.allFz (a ++ b)) = ((x.isFz && D.allFz a) && D.allFz b); rw [ih, Bool.and_assoc]
@[simp] theorem fzs_ln {n : Nat} {f : Nat → D} : D.fzs (ln n f) = ln n fun i => (f i).fz := by
  induction n generalizing f with
  | zero => rfl
  | succ n ih =>
    rw [ln_cons, ln_cons]
    show D.fz (f 0) :: D.fzs _ = _
    rw [ih]
@[simp] theorem fzs_app {a b : List D} : D.fzs (a ++ b) = D.fzs a ++ D.fzs b := by
  induction a with
  | nil => rfl
  | cons x a ih => show x.fz :: D.fzs (a ++ b) = x.fz :: (D.fzs a ++ D.fzs b); rw [ih]
theorem rangeD_ln (a b : Int) : rangeD a b = ln (b - a).toNat fun k => .int (a + k) := rfl
@[simp] theorem rangeD_nat (n : Nat) : rangeD 0 n = ln n fun k => .int k := by
  rw [rangeD_ln]; simp
@[simp] theorem zipD_ln {n : Nat} {f g : Nat → D} : zipD (ln n f) (ln n g) = ln n fun i => .tup [f i, g i] := by
  induction n generalizing f g with
  | zero => rfl
  | succ n ih => rw [ln_cons, ln_cons, ln_cons]; show _ :: zipD _ _ = _; rw [ih]
@[simp] theorem enuD_ln {n : Nat} {f : Nat → D} (s : Nat) : enuD s (ln n f) = ln n fun i => .tup [.int ((s + i : Nat) : Int), f i] := by
  induction n generalizing f s with
  | zero => rfl
  | succ n ih =>
    rw [ln_cons, ln_cons]; show _ :: enuD (s + 1) _ = _; rw [ih]
    congr 1
    exact ln_congr fun i _ => by rw [show s + 1 + i = s + (i + 1) by omega]
@[simp] theorem ints_ln {n : Nat} {f : Nat → Int} : D.ints (ln n fun i => .int (f i)) = some (ln n f) := by
  induction n generalizing f with
  | zero => rfl
  | succ n ih => rw [ln_cons, ln_cons]; show (D.ints _).map _ = _; rw [ih]; rfl
@[simp] theorem bls_ln {n : Nat} {f : Nat → Bool} : D.bls (ln n fun i => .bl (f i)) = some (ln n f) := by
  induction n generalizing f with
  | zero => rfl
  | succ n ih => rw [ln_cons, ln_cons]; show (D.bls _).map _ = _; rw [ih]; rfl
theorem any_ln {n : Nat} {f : Nat → Bool} : (ln n f).any id = true ↔ ∃ i, i < n ∧ f i = true := by simp [ln]
theorem all_ln {n : Nat} {f : Nat → Bool} : (ln n f).all id = true ↔ ∀ i, i < n → f i = true := by simp [ln]
theorem atI_nat {α : Type} {xs : List α} {i : Nat} : atI xs (i : Int) = xs[i]? := by
  unfold atI ixN
  rw [if_pos (by omega)]
  by_cases h : i < xs.length
  · rw [if_pos (by omega)]; simp
  · rw [if_neg (by omega), List.getElem?_eq_none (by omega)]; rfl
end VS
set_option Elab.async false
set_option linter.all false
set_option maxRecDepth 100000
set_option maxHeartbeats 2000000
/-! VPb: the code run by rewriting: one rule a construct. -/
namespace VS
open PySem PySem.Spec PyProof.Rows L2
section
variable {α β : Type}
@[simp] theorem bind_ok {a : α} {f : α → Rr β} : (Rr.ok a).bind f = f a := rfl
@[simp] theorem bind_ex {c : Nat} {xs : List D} {e : VE} {f : α → Rr β} : (Rr.ex c xs e).bind f = .ex c xs e := rfl
@[simp] theorem bind_no {f : α → Rr β} : (Rr.no : Rr α).bind f = .no := rfl
@[simp] theorem fl_ok {a : α} {f : α → Fl} : (Rr.ok a).fl f = f a := rfl
@[simp] theorem fl_ex {c : Nat} {xs : List D} {e : VE} {f : α → Fl} : (Rr.ex c xs e : Rr α).fl f = .ex c xs e := rfl
@[simp] theorem fl_no {f : α → Fl} : (Rr.no : Rr α).fl f = .no := rfl
@[simp] theorem orR_ok {a : α} {b : Rr α} : orR (.ok a) b = .ok a := rfl
@[simp] theorem orR_ex {c : Nat} {xs : List D} {e : VE} {b : Rr α} : orR (.ex c xs e) b = .ex c xs e := rfl
@[simp] theorem orR_no {b : Rr α} : orR .no b = b := rfl
@[simp] theorem optR_some {a : α} : optR (some a) = .ok a := rfl
@[simp] theorem optR_none : optR (none : Option α) = .no := rfl
end
/-! ### slots -/
@[simp] theorem getV_0 {a : Option D} {r : VE} : getV (a :: r) 0 = a := by cases a <;> rfl
/-- what stands in a slot owns nothing -/
def fzO : Option D → Bool
  | some d => d.isFz
  | none => true
@[simp] theorem fzO_some {d : D} : fzO (some d) = d.isFz := rfl
@[simp] theorem fzO_none : fzO none = true := rfl
@[simp] theorem getV_s {a : Option D} {r : VE} {i : Nat} : getV (a :: r) (i + 1) = getV r i := rfl
@[simp] theorem setV_0 {a : Option D} {d : D} {r : VE} : setV (a :: r) 0 d = some d :: r := rfl
@[simp] theorem setV_s {a : Option D} {d : D} {r : VE} {i : Nat} : setV (a :: r) (i + 1) d = a :: setV r i d := rfl
@[simp] theorem delV_0 {a : Option D} {r : VE} : delV (a :: r) 0 = none :: r := rfl
@[simp] theorem delV_s {a : Option D} {r : VE} {i : Nat} : delV (a :: r) (i + 1) = a :: delV r i := rfl
@[simp] theorem setN_0 {a b : Option D} {r : VE} : List.set (a :: r) 0 b = b :: r := rfl
@[simp] theorem wipe_nil {e : VE} : wipeV e [] = e := rfl
@[simp] theorem wipe_cons {e : VE} {i : Nat} {is : List Nat} : wipeV e (i :: is) = delV (wipeV e is) i := rfl
@[simp] theorem back_nil {e0 e : VE} : backV e0 e [] = e := rfl
/-- slot i as it was -/
def putV (e : VE) (i : Nat) (o : Option D) : VE := e.set i o
@[simp] theorem putV_0 {a o : Option D} {r : VE} : putV (a :: r) 0 o = o :: r := rfl
@[simp] theorem putV_s {a o : Option D} {r : VE} {i : Nat} : putV (a :: r) (i + 1) o = a :: putV r i o := rfl
def slotV (e : VE) (i : Nat) : Option D := (e[i]?).getD none
@[simp] theorem slotV_0 {a : Option D} {r : VE} : slotV (a :: r) 0 = a := rfl
@[simp] theorem slotV_s {a : Option D} {r : VE} {i : Nat} : slotV (a :: r) (i + 1) = slotV r i := by simp [slotV]
@[simp] theorem back_cons {e0 e : VE} {i : Nat} {is : List Nat} : backV e0 e (i :: is) = putV (backV e0 e is) i (slotV e0 i) := rfl
@[simp] theorem free_nil {e : VE} : freeV e [] = true := rfl
@[simp] theorem free_cons {e : VE} {i : Nat} {is : List Nat} : freeV e (i :: is) = (fzO (getV e i) && freeV e is) := by
  show ((match getV e i with | some d => d.isFz | none => true) && freeV e is) = _
  cases getV e i <;> rfl
@[simp] theorem setTs_nil {e : VE} : setTs e [] [] = some e := rfl
@[simp] theorem setTs_cons {e : VE} {i : Nat} {is : List Nat} {d : D} {ds : List D} : setTs e (i :: is) (d :: ds) = setTs (setV e i d) is ds := rfl
@[simp] theorem setT_1 {e : VE} {i : Nat} {d : D} : setT e [i] false d = some (setV e i d) := rfl
@[simp] theorem setT_t {e : VE} {ts : List Nat} {xs : List D} : setT e ts true (.tup xs) = setTs e ts xs := by cases ts <;> rfl
/-! ### trees -/
@[simp] theorem fz_int {i : Int} : (D.int i).fz = .int i := rfl
@[simp] theorem fz_bl {b : Bool} : (D.bl b).fz = .bl b := rfl
@[simp] theorem fz_non : D.non.fz = .non := rfl
@[simp] theorem fz_str {s : List Nat} : (D.str s).fz = .str s := rfl
@[simp] theorem fz_cls {c : Nat} : (D.cls c).fz = .cls c := rfl
@[simp] theorem fz_ty {c : String} : (D.ty c).fz = .ty c := rfl
@[simp] theorem fz_rng {a b : Int} : (D.rng a b).fz = .rng a b := rfl
@[simp] theorem fz_tup {xs : List D} : (D.tup xs).fz = .tup (D.fzs xs) := rfl
@[simp] theorem fz_lst {o : Bool} {xs : List D} : (D.lst o xs).fz = .lst false (D.fzs xs) := rfl
@[simp] theorem fz_obj {o : Bool} {c : Nat} {xs : List D} : (D.obj o c xs).fz = .obj false c (D.fzs xs) := rfl
@[simp] theorem fz_exv {c : Nat} {xs : List D} : (D.exv c xs).fz = .exv c (D.fzs xs) := rfl
@[simp] theorem fzs_nil : D.fzs [] = [] := rfl
@[simp] theorem fzs_cons {d : D} {ds : List D} : D.fzs (d :: ds) = d.fz :: D.fzs ds := rfl
@[simp] theorem isFz_int {i : Int} : (D.int i).isFz = true := rfl
@[simp] theorem isFz_bl {b : Bool} : (D.bl b).isFz = true := rfl
@[simp] theorem isFz_non : D.non.isFz = true := rfl
@[simp] theorem isFz_str {s : List Nat} : (D.str s).isFz = true := rfl
@[simp] theorem isFz_cls {c : Nat} : (D.cls c).isFz = true := rfl
@[simp] theorem isFz_ty {c : String} : (D.ty c).isFz = true := rfl
@[simp] theorem isFz_rng {a b : Int} : (D.rng a b).isFz = true := rfl
@[simp] theorem isFz_tup {xs : List D} : (D.tup xs).isFz = D.allFz xs := rfl
@[simp] theorem isFz_lst {o : Bool} {xs : List D} : (D.lst o xs).isFz = (!o && D.allFz xs) := rfl
@[simp] theorem isFz_obj {o : Bool} {c : Nat} {xs : List D} : (D.obj o c xs).isFz = (!o && D.allFz xs) := rfl
@[simp] theorem isFz_exv {c : Nat} {xs : List D} : (D.exv c xs).isFz = D.allFz xs := rfl
@[simp] theorem allFz_nil : D.allFz [] = true := rfl
@[simp] theorem allFz_cons {d : D} {ds : List D} : D.allFz (d :: ds) = (d.isFz && D.allFz ds) := rfl
@[simp] theorem truth_bl {b : Bool} : truth (.bl b) = some b := rfl
@[simp] theorem truth_non : truth .non = some false := rfl
@[simp] theorem truth_int {i : Int} : truth (.int i) = some (decide (i ≠ 0)) := rfl
@[simp] theorem truth_lst {o : Bool} {xs : List D} : truth (.lst o xs) = some (!xs.isEmpty) := rfl
@[simp] theorem truth_tup {xs : List D} : truth (.tup xs) = some (!xs.isEmpty) := rfl
@[simp] theorem items_tup {xs : List D} : items (.tup xs) = some xs := rfl
@[simp] theorem items_lst {o : Bool} {xs : List D} : items (.lst o xs) = some xs := rfl
@[simp] theorem items_int {i : Int} : items (.int i) = none := rfl
@[simp] theorem items_obj {o : Bool} {c : Nat} {xs : List D} : items (.obj o c xs) = none := rfl
@[simp] theorem isNon_non : D.non.isNon = true := rfl
@[simp] theorem isNon_int {i : Int} : (D.int i).isNon = false := rfl
@[simp] theorem isNon_tup {xs : List D} : (D.tup xs).isNon = false := rfl
@[simp] theorem isNon_lst {o : Bool} {xs : List D} : (D.lst o xs).isNon = false := rfl
@[simp] theorem isNon_bl {b : Bool} : (D.bl b).isNon = false := rfl
@[simp] theorem isNon_str {b : List Nat} : (D.str b).isNon = false := rfl
@[simp] theorem isNon_obj {o : Bool} {c : Nat} {xs : List D} : (D.obj o c xs).isNon = false := rfl
theorem ixD_nat {xs : List D} {i : Nat} : ixD xs (i : Int) = xs[i]? := atI_nat
@[simp] theorem ixD_0 {d : D} {xs : List D} : ixD (d :: xs) 0 = some d := by
  show ixD (d :: xs) ((0 : Nat) : Int) = _
  rw [ixD_nat]; rfl
/-! ### expressions -/
section
variable {T : Tab} {call : Nat → List D → CR} {env : VE} {m : Bool}
@[simp] theorem fin_f {r : Rr (D × VE)} : fin false r = r := rfl
@[simp] theorem fin_t {d : D} {e : VE} : fin true (.ok (d, e)) = optR ((truth d).map fun b => (.bl b, e)) := rfl
@[simp] theorem fin_ex {c : Nat} {xs : List D} {e : VE} : fin m (.ex c xs e) = .ex c xs e := by cases m <;> rfl
@[simp] theorem evX_con {d : D} : evX T call m (.con d) env = fin m (.ok (d, env)) := by rw [evX] <;> rfl
@[simp] theorem evX_glo {d : D} : evX T call m (.glo d) env = fin m (.ok (d, env)) := by rw [evX] <;> rfl
@[simp] theorem evX_var {i : Nat} : evX T call false (.var i) env = readV env i := by rw [evX] <;> rfl
@[simp] theorem evX_varT {i : Nat} : evX T call true (.var i) env = fin true (optR ((getV env i).map fun d => (d, env))) := by rw [evX] <;> rfl
theorem readV_fz {i : Nat} {d : D} (h : getV env i = some d) (hf : d.isFz = true) : readV env i = .ok (d, env) := by unfold readV; rw [h]; simp [hf]
theorem readV_own {i : Nat} {d : D} (h : getV env i = some d) (hf : d.isFz = false) : readV env i = .ok (d.fz, setV env i d.fz) := by unfold readV; rw [h]; simp [hf]
/-- a slot read: frozen -/
def rdD (d : D) (env : VE) (i : Nat) : Rr (D × VE) := if d.isFz then .ok (d, env) else .ok (d.fz, setV env i d.fz)
def rdO (o : Option D) (env : VE) (i : Nat) : Rr (D × VE) := match o with
  | some d => rdD d env i
  | none => .no
@[simp] theorem readV_eq {i : Nat} : readV env i = rdO (getV env i) env i := by
  unfold readV rdO rdD
  cases getV env i <;> rfl
@[simp] theorem rdO_some {d : D} {i : Nat} : rdO (some d) env i = rdD d env i := rfl
@[simp] theorem rdD_int {i : Int} {k : Nat} : rdD (.int i) env k = .ok (.int i, env) := rfl
@[simp] theorem rdD_bl {b : Bool} {k : Nat} : rdD (.bl b) env k = .ok (.bl b, env) := rfl
@[simp] theorem rdD_non {k : Nat} : rdD .non env k = .ok (.non, env) := rfl
@[simp] theorem rdD_str {b : List Nat} {k : Nat} : rdD (.str b) env k = .ok (.str b, env) := rfl
@[simp] theorem rdD_rng {a b : Int} {k : Nat} : rdD (.rng a b) env k = .ok (.rng a b, env) := rfl
@[simp] theorem rdD_tup {xs : List D} {k : Nat} (h : D.allFz xs = true) : rdD (.tup xs) env k = .ok (.tup xs, env) := by unfold rdD; rw [if_pos (by simpa using h)]
@[simp] theorem rdD_lst {xs : List D} {k : Nat} (h : D.allFz xs = true) : rdD (.lst false xs) env k = .ok (.lst false xs, env) := by unfold rdD; rw [if_pos (by simpa using h)]
@[simp] theorem rdD_obj {c : Nat} {xs : List D} {k : Nat} (h : D.allFz xs = true) : rdD (.obj false c xs) env k = .ok (.obj false c xs, env) := by unfold rdD; rw [if_pos (by simpa using h)]
@[simp] theorem rdD_lstO {xs : List D} {k : Nat} : rdD (.lst true xs) env k = .ok (.lst false (D.fzs xs), setV env k (.lst false (D.fzs xs))) := rfl
@[simp] theorem rdD_objO {c : Nat} {xs : List D} {k : Nat} : rdD (.obj true c xs) env k = .ok (.obj false c (D.fzs xs), setV env k (.obj false c (D.fzs xs))) := rfl
/-- an operand that is only read -/
def viaE (T : Tab) (call : Nat → List D → CR) (e : E) (env : VE) : Rr (D × VE) := viaA e (fun v => evX T call false e v) env
theorem viaE_no {e : E} (h : isPl e = false) : viaE T call e env = evX T call false e env := by cases e <;> first | rfl | (simp [isPl] at h)
@[simp] theorem viaE_var {i : Nat} : viaE T call (.var i) env = optR ((getV env i).map fun d => (d, env)) := rfl
def viaO (T : Tab) (call : Nat → List D → CR) (q : Option D) (e : E) (env : VE) : Rr (D × VE) := match q with
  | some d => .ok (d, env)
  | none => evX T call false e env
@[simp] theorem viaO_some {d : D} {e : E} : viaO T call (some d) e env = .ok (d, env) := rfl
@[simp] theorem viaO_none {e : E} : viaO T call none e env = evX T call false e env := rfl
@[simp] theorem viaE_sub {o i : E} : viaE T call (.sub o i) env = viaO T call (peek (.sub o i) env) (.sub o i) env := by
  show (match peek (.sub o i) env with | some d => Rr.ok (d, env) | none => evX T call false (.sub o i) env) = _
  unfold viaO
  cases peek (.sub o i) env <;> rfl
@[simp] theorem viaE_con {d : D} : viaE T call (.con d) env = evX T call false (.con d) env := rfl
@[simp] theorem viaE_glo {d : D} : viaE T call (.glo d) env = evX T call false (.glo d) env := rfl
@[simp] theorem viaE_neg {a : E} : viaE T call (.neg a) env = evX T call false (.neg a) env := rfl
@[simp] theorem viaE_frz {a : E} : viaE T call (.frz a) env = evX T call false (.frz a) env := rfl
@[simp] theorem viaE_bin {o : Bop} {a b : E} : viaE T call (.bin o a b) env = evX T call false (.bin o a b) env := rfl
@[simp] theorem viaE_cmp {o : Cop} {a b : E} : viaE T call (.cmp o a b) env = evX T call false (.cmp o a b) env := rfl
@[simp] theorem viaE_bool {b : Bool} {as : Es} : viaE T call (.bool b as) env = evX T call false (.bool b as) env := rfl
@[simp] theorem viaE_not {a : E} : viaE T call (.not a) env = evX T call false (.not a) env := rfl
@[simp] theorem viaE_ite {a b c : E} : viaE T call (.ite a b c) env = evX T call false (.ite a b c) env := rfl
@[simp] theorem viaE_call {f : Nat} {as kv : Es} {ks : List Str} : viaE T call (.call f as ks kv) env = evX T call false (.call f as ks kv) env := rfl
@[simp] theorem viaE_new {f : Nat} {as kv : Es} {ks : List Str} : viaE T call (.new f as ks kv) env = evX T call false (.new f as ks kv) env := rfl
@[simp] theorem viaE_attr {o : E} {f : Str} : viaE T call (.attr o f) env = evX T call false (.attr o f) env := rfl
@[simp] theorem viaE_xat {o : Nat} {f : Str} : viaE T call (.xat o f) env = evX T call false (.xat o f) env := rfl
@[simp] theorem viaE_tup {as : Es} : viaE T call (.tup as) env = evX T call false (.tup as) env := rfl
@[simp] theorem viaE_lst {as : Es} : viaE T call (.lst as) env = evX T call false (.lst as) env := rfl
@[simp] theorem viaE_comp {e : E} {ts : List Nat} {tu : Bool} {it : I} {ifs : Es} : viaE T call (.comp e ts tu it ifs) env = evX T call false (.comp e ts tu it ifs) env := rfl
@[simp] theorem viaE_blt {b : Blt} {as : Es} : viaE T call (.blt b as) env = evX T call false (.blt b as) env := rfl
@[simp] theorem viaE_lm {x : Lm} {o : E} {as : Es} : viaE T call (.lm x o as) env = evX T call false (.lm x o as) env := rfl
/-- two operands: the second way -/
def binW (T : Tab) (call : Nat → List D → CR) (o : Bop) (a b : E) (env : VE) : Rr (D × VE) := (evX T call false a env).bind fun p => (evX T call false b p.2).bind fun q => optR ((binD o p.1.fz q.1.fz).map fun d => (d, q.2))
def binC (T : Tab) (call : Nat → List D → CR) (o : Bop) (a b : E) (env w : VE) (r : Option D) : Rr (D × VE) := match r with
  | some d => .ok (d, w)
  | none => binW T call o a b env
def binB (T : Tab) (call : Nat → List D → CR) (o : Bop) (a b : E) (env : VE) (x : D) (r : Rr (D × VE)) : Rr (D × VE) := match r with
  | .ok (y, w) => binC T call o a b env w (binD o x y)
  | .ex c xs e => .ex c xs e
  | .no => binW T call o a b env
def binA (T : Tab) (call : Nat → List D → CR) (o : Bop) (a b : E) (env : VE) (r : Rr (D × VE)) : Rr (D × VE) := match r with
  | .ok (x, v) => if x.isFz || !muE T b || !isPl a then binB T call o a b env x (viaE T call b v) else binW T call o a b env
  | .ex c xs e => .ex c xs e
  | .no => binW T call o a b env
@[simp] theorem binC_some {o : Bop} {a b : E} {w : VE} {d : D} : binC T call o a b env w (some d) = .ok (d, w) := rfl
@[simp] theorem binC_none {o : Bop} {a b : E} {w : VE} : binC T call o a b env w none = binW T call o a b env := rfl
@[simp] theorem binB_ok {o : Bop} {a b : E} {x y : D} {w : VE} : binB T call o a b env x (.ok (y, w)) = binC T call o a b env w (binD o x y) := rfl
@[simp] theorem binA_ok {o : Bop} {a b : E} {x : D} {v : VE} : binA T call o a b env (.ok (x, v)) = if x.isFz || !muE T b || !isPl a then binB T call o a b env x (viaE T call b v) else binW T call o a b env := rfl
@[simp] theorem evX_bin {o : Bop} {a b : E} : evX T call m (.bin o a b) env = fin m (binA T call o a b env (viaE T call a env)) := by
  rw [evX]
  congr 1
  show orR ((viaE T call a env).bind fun p => if p.1.isFz || !muE T b || !isPl a then (viaE T call b p.2).bind fun q => optR ((binD o p.1 q.1).map fun d => (d, q.2)) else .no) (binW T call o a b env) = _
  cases viaE T call a env with
  | ex c xs e => rfl
  | no => rfl
  | ok p =>
    obtain ⟨x, v⟩ := p
    simp only [bind_ok, binA_ok]
    split
    · cases viaE T call b v with
      | ex c xs e => rfl
      | no => rfl
      | ok q =>
        obtain ⟨y, w⟩ := q
        simp only [bind_ok, binB_ok]
        cases binD o x y <;> rfl
    · rfl
def cmpB (o : Cop) (x : D) (r : Rr (D × VE)) : Rr (D × VE) := r.bind fun q => evC o x q.1 q.2
def cmpA (T : Tab) (call : Nat → List D → CR) (o : Cop) (a b : E) (r : Rr (D × VE)) : Rr (D × VE) := r.bind fun p => if p.1.isFz || !muE T b || !isPl a then cmpB o p.1 (viaE T call b p.2) else .no
@[simp] theorem cmpB_ok {o : Cop} {x y : D} {w : VE} : cmpB o x (.ok (y, w)) = evC o x y w := rfl
@[simp] theorem cmpA_ok {o : Cop} {a b : E} {x : D} {v : VE} : cmpA T call o a b (.ok (x, v)) = if x.isFz || !muE T b || !isPl a then cmpB o x (viaE T call b v) else .no := rfl
@[simp] theorem evX_cmp {o : Cop} {a b : E} : evX T call m (.cmp o a b) env = cmpA T call o a b (viaE T call a env) := by rw [evX] <;> rfl
def iteA (T : Tab) (call : Nat → List D → CR) (m : Bool) (a b : E) (r : Rr (D × VE)) : Rr (D × VE) := r.bind fun p => match p.1 with | .bl k => if k then evX T call m a p.2 else evX T call m b p.2 | _ => .no
@[simp] theorem iteA_ok {a b : E} {k : Bool} {v : VE} : iteA T call m a b (.ok (.bl k, v)) = if k then evX T call m a v else evX T call m b v := rfl
@[simp] theorem evX_ite {c a b : E} : evX T call m (.ite c a b) env = iteA T call m a b (evX T call true c env) := by rw [evX] <;> rfl
@[simp] theorem evX_attr {o : E} {f : Str} : evX T call m (.attr o f) env = fin m ((viaE T call o env).bind fun p => attrD T call p.1 f p.2) := by rw [evX] <;> rfl
@[simp] theorem evX_frzF {a : E} : evX T call false (.frz a) env = (evX T call false a env).bind fun p => .ok (p.1.fz, p.2) := by rw [evX]; rfl
@[simp] theorem evX_frzT {a : E} : evX T call true (.frz a) env = evX T call true a env := by rw [evX]; rfl
def negV (d : D) (v : VE) : Rr (D × VE) := match d with | .int i => .ok (.int (-i), v) | _ => .no
@[simp] theorem negV_i {i : Int} {v : VE} : negV (.int i) v = .ok (.int (-i), v) := rfl
@[simp] theorem evX_neg {a : E} : evX T call m (.neg a) env = fin m ((evX T call false a env).bind fun p => negV p.1 p.2) := by rw [evX] <;> rfl
@[simp] theorem evX_bool {k : Bool} {as : Es} : evX T call m (.bool k as) env = evB T call m k as env := by rw [evX] <;> rfl
def notV (d : D) (v : VE) : Rr (D × VE) := match d with | .bl b => .ok (.bl (!b), v) | _ => .no
@[simp] theorem notV_b {b : Bool} {v : VE} : notV (.bl b) v = .ok (.bl (!b), v) := rfl
@[simp] theorem evX_notT {a : E} : evX T call true (.not a) env = (evX T call true a env).bind fun p => notV p.1 p.2 := by rw [evX] <;> rfl
@[simp] theorem evX_notF {a : E} : evX T call false (.not a) env = (evX T call false a env).bind fun p => optR ((truth p.1).map fun b => (.bl (!b), p.2)) := by rw [evX] <;> rfl
/-- a place read -/
def rdQ (m : Bool) (d : D) (o : E) (env : VE) : Rr (D × VE) := if d.isFz then .ok (d, env) else if m then .ok (d, env) else optR ((frzRoot o env).map fun e => (d.fz, e))
def subO (T : Tab) (call : Nat → List D → CR) (m : Bool) (q : Option D) (o i : E) (env : VE) : Rr (D × VE) := match q with
  | some d => rdQ m d o env
  | none => (evX T call false o env).bind fun p => (evX T call false i p.2).bind fun q => subD T call p.1 q.1 q.2
@[simp] theorem evX_sub {o i : E} : evX T call m (.sub o i) env = fin m (subO T call m (peek (.sub o i) env) o i env) := by
  rw [evX]
  unfold subO rdQ
  cases peek (.sub o i) env <;> rfl
@[simp] theorem subO_some {d : D} {o i : E} : subO T call m (some d) o i env = rdQ m d o env := rfl
@[simp] theorem subO_none {o i : E} : subO T call m none o i env = (evX T call false o env).bind fun p => (evX T call false i p.2).bind fun q => subD T call p.1 q.1 q.2 := rfl
@[simp] theorem rdS_int {o : E} {i : Int} : rdQ m (.int i) o env = .ok (.int i, env) := rfl
@[simp] theorem rdS_bl {o : E} {i : Bool} : rdQ m (.bl i) o env = .ok (.bl i, env) := rfl
@[simp] theorem rdS_non {o : E} : rdQ m .non o env = .ok (.non, env) := rfl
@[simp] theorem rdS_str {o : E} {i : List Nat} : rdQ m (.str i) o env = .ok (.str i, env) := rfl
@[simp] theorem rdS_tup {o : E} {xs : List D} (h : D.allFz xs = true) : rdQ m (.tup xs) o env = .ok (.tup xs, env) := by unfold rdQ; rw [if_pos (by simpa using h)]
@[simp] theorem rdS_lst {o : E} {xs : List D} (h : D.allFz xs = true) : rdQ m (.lst false xs) o env = .ok (.lst false xs, env) := by unfold rdQ; rw [if_pos (by simpa using h)]
@[simp] theorem rdS_obj {o : E} {c : Nat} {xs : List D} (h : D.allFz xs = true) : rdQ m (.obj false c xs) o env = .ok (.obj false c xs, env) := by unfold rdQ; rw [if_pos (by simpa using h)]
@[simp] theorem rdS_lstO {o : E} {xs : List D} : rdQ false (.lst true xs) o env = optR ((frzRoot o env).map fun e => (.lst false (D.fzs xs), e)) := rfl
@[simp] theorem evX_tup {as : Es} : evX T call m (.tup as) env = fin m ((evEs T call as env).bind fun p => if lenOk p.1.length then .ok (.tup (D.fzs p.1), p.2) else .no) := by rw [evX] <;> rfl
@[simp] theorem evX_lst {as : Es} : evX T call m (.lst as) env = fin m ((evEs T call as env).bind fun p => if lenOk p.1.length then .ok (.lst true p.1, p.2) else .no) := by rw [evX] <;> rfl
def compC (T : Tab) (call : Nat → List D → CR) (ts : List Nat) (tu : Bool) (e : E) (ifs : Es) (xs acc : List D) (env : VE) : Rr (List D × VE) := compL ts tu (fun v => evTs T call ifs v) (fun v => evX T call false e v) xs acc env
def compB (T : Tab) (call : Nat → List D → CR) (ts : List Nat) (tu : Bool) (e : E) (ifs : Es) (r : Rr (List D × VE)) : Rr (D × VE) := r.bind fun p => if freeV p.2 ts then
      (compL ts tu (fun v => evTs T call ifs v) (fun v => evX T call false e v) p.1 [] (wipeV p.2 ts)).bind fun r => .ok (.lst true r.1, backV p.2 r.2 ts)
    else .no
@[simp] theorem compB_ok {ts : List Nat} {tu : Bool} {e : E} {ifs : Es} {xs : List D} {v : VE} : compB T call ts tu e ifs (.ok (xs, v)) = if freeV v ts then (compC T call ts tu e ifs xs [] (wipeV v ts)).bind fun r => .ok (.lst true r.1, backV v r.2 ts) else .no := rfl
@[simp] theorem evX_comp {e : E} {ts : List Nat} {tu : Bool} {it : I} {ifs : Es} : evX T call m (.comp e ts tu it ifs) env = fin m (compB T call ts tu e ifs (evI T call it env)) := by rw [evX] <;> rfl <;> rfl
@[simp] theorem evX_blt {b : Blt} {as : Es} : evX T call m (.blt b as) env = fin m ((evAs T call as env).bind fun p => optR ((bltD b p.1).map fun d => (d, p.2))) := by rw [evX] <;> rfl
theorem evX_call {f : Nat} {as kv : Es} {ks : List Str} {fn : FnI} (hf : T.fns[f]? = some fn) (hm : fn.mu = false) : evX T call m (.call f as ks kv) env = fin m ((evEs T call as env).bind fun p => (evEs T call kv p.2).bind fun q => match findS (lenEs as) ks fn.shapes with
        | some s => match fillS s.src (D.fzs p.1) (D.fzs q.1) with
          | some ds => callR T call f ds q.2
          | none => .no
        | none => .no) := by
  rw [evX, hf]
  simp only [hm]
  rfl
theorem evX_callM {f i : Nat} {es : Es} {fn : FnI} (hf : T.fns[f]? = some fn) (hm : fn.mu = true) : evX T call m (.call f (.cons (.var i) es) [] .nil) env = fin m (if (getV env i).isNone then .no else (evEs T call es env).bind fun p => if hasTriv fn (p.1.length + 1) && decide (p.1.length + 1 = fn.np) then
              (match getV p.2 i with
              | some (.lst true xs) => match call f (.lst true xs :: D.fzs p.1) with
                | .ok d (some d') => .ok (d, setV p.2 i d')
                | _ => .no
              | _ => .no)
            else .no) := by
  rw [evX, hf]
  simp only [hm]
  rfl
theorem evX_new {c : Nat} {as kv : Es} {ks : List Str} {cl : ClsI} {f : Nat} {fn : FnI} (hc : T.cls[c]? = some cl) (hi : cl.init = some f) (hf : T.fns[f]? = some fn) : evX T call m (.new c as ks kv) env = fin m ((evEs T call as env).bind fun p => (evEs T call kv p.2).bind fun q => match findS (lenEs as + 1) ks fn.shapes with
          | some sh => if fn.mu && (selfS sh.src && !cl.ex) then
              (match fillS sh.src (.obj true c [] :: D.fzs p.1) (D.fzs q.1) with
              | some ds => if ds.length ≠ fn.np then .no else match call f ds with
                | .ok .non (some d) => .ok (d.fz, q.2)
                | .ex k xs => .ex k xs q.2
                | _ => .no
              | none => .no)
            else .no
          | none => .no) := by
  rw [evX, hc]
  dsimp only
  rw [hi]
  dsimp only
  rw [hf]
  try rfl
/-- a field of a caught exception -/
def xatR (T : Tab) (o : Option D) (f : Str) (env : VE) : Rr (D × VE) := match o with
    | some (.exv c vs) => match T.cls[c]? with
      | some cl => match idxF f cl.fl with
        | some j => optR ((vs[j]?).map fun d => (d, env))
        | none => .no
      | none => .no
    | _ => .no
@[simp] theorem evX_xat {i : Nat} {f : Str} : evX T call m (.xat i f) env = fin m (xatR T (getV env i) f env) := by rw [evX] <;> rfl
theorem xat_fld {c : Nat} {vs : List D} {f : Str} {cl : ClsI} {j : Nat} (hc : T.cls[c]? = some cl) (hj : idxF f cl.fl = some j) : xatR T (some (.exv c vs)) f env = optR ((vs[j]?).map fun d => (d, env)) := by
  unfold xatR
  simp only [hc, hj]
def ownL : Option D → Option (List D)
  | some (.lst true xs) => some xs
  | _ => none
@[simp] theorem ownL_some {xs : List D} : ownL (some (.lst true xs)) = some xs := rfl
def appB (o : Option (List D)) (x : D) (v : VE) (i : Nat) : Rr (D × VE) := match o with
  | some xs => if lenOk (xs.length + 1) then .ok (.non, setV v i (.lst true (xs ++ [x]))) else .no
  | none => .no
@[simp] theorem appB_some {xs : List D} {x : D} {v : VE} {i : Nat} (h : xs.length ≤ 1000000) : appB (some xs) x v i = .ok (.non, setV v i (.lst true (xs ++ [x]))) := by
  show (if lenOk (xs.length + 1) then _ else _) = _
  rw [if_pos (show lenOk (xs.length + 1) = true from decide_eq_true (by omega))]
def appA (o : Option (List D)) (i : Nat) (r : Rr (D × VE)) : Rr (D × VE) := match o with
  | some _ => r.bind fun p => appB (ownL (getV p.2 i)) p.1 p.2 i
  | none => .no
@[simp] theorem appA_ok {xs : List D} {i : Nat} {x : D} {v : VE} : appA (some xs) i (.ok (x, v)) = appB (ownL (getV v i)) x v i := rfl
@[simp] theorem appA_ex {xs : List D} {i c : Nat} {ys : List D} {v : VE} : appA (some xs) i (.ex c ys v) = .ex c ys v := rfl
theorem ownL_cases (o : Option D) : (∃ xs, o = some (.lst true xs)) ∨ ownL o = none := by
  cases o with
  | none => exact .inr rfl
  | some d =>
    cases d with
    | lst o xs => cases o with
      | true => exact .inl ⟨xs, rfl⟩
      | false => exact .inr rfl
    | _ => exact .inr rfl
theorem matchL {α : Type} (o : Option D) (f : List D → α) (z : α) : (match o with | some (.lst true xs) => f xs | _ => z) = (match ownL o with | some xs => f xs | none => z) := by
  cases o with
  | none => rfl
  | some d =>
    cases d with
    | lst o xs => cases o <;> rfl
    | _ => rfl
@[simp] theorem evX_app {i : Nat} {e : E} : evX T call m (.lm .append (.var i) (.cons e .nil)) env = fin m (appA (ownL (getV env i)) i (evX T call false e env)) := by
  rw [evX]
  congr 1
  show (match getV env i with
        | some (.lst true _) => (evX T call false e env).bind fun p => (match getV p.2 i with
          | some (.lst true xs) => if lenOk (xs.length + 1) then Rr.ok (D.non, setV p.2 i (.lst true (xs ++ [p.1]))) else .no
          | _ => .no)
        | _ => .no) = _
  rw [matchL]
  unfold appA
  cases ownL (getV env i) with
  | none => rfl
  | some xs =>
    simp only
    congr 1
    funext p
    rw [matchL]
    unfold appB
    cases ownL (getV p.2 i) <;> rfl
@[simp] theorem updP_var {i : Nat} {f : D → Option D} : updP (.var i) env f = (getV env i).bind fun d => (f d).map fun d' => setV env i d' := by rw [updP]
/-- item k of an owned list changed by f -/
def updI (k : Int) (f : D → Option D) : D → Option D := fun d => match d with
    | .lst true xs => if 0 ≤ k ∧ k < xs.length then (xs[k.toNat]?).bind fun x => (f x).map fun y => .lst true (xs.set k.toNat y) else none
    | _ => none
@[simp] theorem updP_sub {o i : E} {f : D → Option D} : updP (.sub o i) env f = (smp i env).bind fun k => updP o env (updI k f) := by rw [updP] <;> rfl
def popB (o : E) (env : VE) (xs : List D) (r : Option D) : Rr (D × VE) := match r with
        | some x => if x.isFz then optR ((updP o env fun _ => some (.lst true xs.dropLast)).map fun e => (x, e)) else .no
        | none => .no
@[simp] theorem popB_some {o : E} {xs : List D} {x : D} (h : x.isFz = true) : popB o env xs (some x) = optR ((updP o env fun _ => some (.lst true xs.dropLast)).map fun e => (x, e)) := if_pos h
@[simp] theorem popB_int {o : E} {xs : List D} {i : Int} : popB o env xs (some (.int i)) = optR ((updP o env fun _ => some (.lst true xs.dropLast)).map fun e => (.int i, e)) := rfl
def popA (o : E) (env : VE) (r : Option (List D)) : Rr (D × VE) := match r with
  | some xs => popB o env xs xs.getLast?
  | none => .no
@[simp] theorem popA_some {o : E} {xs : List D} : popA o env (some xs) = popB o env xs xs.getLast? := rfl
@[simp] theorem evX_pop {o : E} : evX T call m (.lm .pop o .nil) env = fin m (popA o env (ownL (peek o env))) := by
  rw [evX]
  congr 1
  show (match peek o env with
      | some (.lst true xs) => (match xs.getLast? with
        | some x => if x.isFz then optR ((updP o env fun _ => some (.lst true xs.dropLast)).map fun e => (x, e)) else .no
        | none => .no)
      | _ => .no) = _
  rw [matchL]
  unfold popA
  cases ownL (peek o env) with
  | none => rfl
  | some xs =>
    simp only
    unfold popB
    cases xs.getLast? <;> rfl
def revA (o : E) (env : VE) (r : Option (List D)) : Rr (D × VE) := match r with
  | some xs => if D.allFz xs then optR ((updP o env fun _ => some (.lst true xs.reverse)).map fun e => (.non, e)) else .no
  | none => .no
@[simp] theorem revA_some {o : E} {xs : List D} (h : D.allFz xs = true) : revA o env (some xs) = optR ((updP o env fun _ => some (.lst true xs.reverse)).map fun e => (.non, e)) := if_pos h
@[simp] theorem evX_rev {o : E} : evX T call m (.lm .reverse o .nil) env = fin m (revA o env (ownL (peek o env))) := by
  rw [evX]
  congr 1
  show (match peek o env with
      | some (.lst true xs) => if D.allFz xs then optR ((updP o env fun _ => some (.lst true xs.reverse)).map fun e => (D.non, e)) else .no
      | _ => .no) = _
  rw [matchL]
  unfold revA
  cases ownL (peek o env) <;> rfl
@[simp] theorem evEs_nil : evEs T call .nil env = .ok ([], env) := by rw [evEs] <;> rfl
@[simp] theorem evEs_cons {e : E} {es : Es} : evEs T call (.cons e es) env = (evX T call false e env).bind fun p => (evEs T call es p.2).bind fun q => .ok (p.1 :: q.1, q.2) := by rw [evEs] <;> rfl
@[simp] theorem evAs_nil : evAs T call .nil env = .ok ([], env) := by rw [evAs] <;> rfl
def evA1 (T : Tab) (call : Nat → List D → CR) (e : E) (es : Es) (r : Rr (D × VE)) : Rr (List D × VE) := r.bind fun p => if p.1.isFz || !muEs T es || !isPl e then (evAs T call es p.2).bind fun q => .ok (p.1 :: q.1, q.2) else .no
@[simp] theorem evA1_ok {e : E} {es : Es} {x : D} {v : VE} : evA1 T call e es (.ok (x, v)) = if x.isFz || !muEs T es || !isPl e then (evAs T call es v).bind fun q => .ok (x :: q.1, q.2) else .no := rfl
@[simp] theorem evA1_last {e : E} {x : D} {v : VE} : evA1 T call e .nil (.ok (x, v)) = .ok ([x], v) := by
  rw [evA1_ok, if_pos]
  · simp
  · have : muEs T .nil = false := by rw [muEs]
    rw [this]; simp
@[simp] theorem evAs_cons {e : E} {es : Es} : evAs T call (.cons e es) env = evA1 T call e es (viaE T call e env) := by rw [evAs] <;> rfl
@[simp] theorem evTs_nil : evTs T call .nil env = .ok (true, env) := by rw [evTs] <;> rfl
def evT1 (T : Tab) (call : Nat → List D → CR) (es : Es) (r : Rr (D × VE)) : Rr (Bool × VE) := r.bind fun p => match p.1 with
    | .bl b => if b then evTs T call es p.2 else .ok (false, p.2)
    | _ => .no
@[simp] theorem evT1_ok {es : Es} {b : Bool} {v : VE} : evT1 T call es (.ok (.bl b, v)) = if b then evTs T call es v else .ok (false, v) := rfl
@[simp] theorem evTs_cons {e : E} {es : Es} : evTs T call (.cons e es) env = evT1 T call es (evX T call true e env) := by rw [evTs] <;> rfl
@[simp] theorem evB_one {k : Bool} {e : E} : evB T call m k (.cons e .nil) env = evX T call m e env := by rw [evB] <;> rfl
def evB1 (T : Tab) (call : Nat → List D → CR) (m k : Bool) (es : Es) (r : Rr (D × VE)) : Rr (D × VE) := r.bind fun p => match p.1 with
    | .bl b => if b = k then evB T call m k es p.2 else .ok (.bl b, p.2)
    | _ => .no
@[simp] theorem evB1_ok {k : Bool} {es : Es} {b : Bool} {v : VE} : evB1 T call m k es (.ok (.bl b, v)) = if b = k then evB T call m k es v else .ok (.bl b, v) := rfl
@[simp] theorem evB_cons {k : Bool} {e f : E} {es : Es} : evB T call m k (.cons e (.cons f es)) env = evB1 T call m k (.cons f es) (evX T call m e env) := by
  rw [evB]
  · rfl
  · simp
/-- what is walked -/
def itV (d : D) (v : VE) : Rr (List D × VE) := match d with
    | .lst _ xs => .ok (D.fzs xs, v)
    | .tup xs => .ok (xs, v)
    | .rng lo hi => if smallI lo && smallI hi then .ok (rangeD lo hi, v) else .no
    | _ => .no
@[simp] theorem itV_lst {o : Bool} {xs : List D} {v : VE} : itV (.lst o xs) v = .ok (D.fzs xs, v) := rfl
@[simp] theorem itV_tup {xs : List D} {v : VE} : itV (.tup xs) v = .ok (xs, v) := rfl
@[simp] theorem itV_rng {a b : Int} {v : VE} : itV (.rng a b) v = if smallI a && smallI b then .ok (rangeD a b, v) else .no := rfl
@[simp] theorem evI_val {e : E} : evI T call (.val e) env = (evX T call false e env).bind fun p => itV p.1 p.2 := by rw [evI] <;> rfl
def rngV (ds : List D) (v : VE) : Rr (List D × VE) := match ds with
    | [.int b] => if smallI b then .ok (rangeD 0 b, v) else .no
    | [.int a, .int b] => if smallI a && smallI b then .ok (rangeD a b, v) else .no
    | _ => .no
@[simp] theorem rngV_1 {b : Int} {v : VE} : rngV [.int b] v = if smallI b then .ok (rangeD 0 b, v) else .no := rfl
@[simp] theorem rngV_2 {a b : Int} {v : VE} : rngV [.int a, .int b] v = if smallI a && smallI b then .ok (rangeD a b, v) else .no := rfl
@[simp] theorem evI_rng {as : Es} : evI T call (.rng as) env = (evEs T call as env).bind fun p => rngV p.1 p.2 := by rw [evI] <;> rfl
def zipV (a b : D) (v : VE) : Rr (List D × VE) := match a, b with
    | .lst _ xs, .lst _ ys => .ok (zipD (D.fzs xs) (D.fzs ys), v)
    | .tup xs, .tup ys => .ok (zipD xs ys, v)
    | _, _ => .no
@[simp] theorem zipV_l {o p : Bool} {xs ys : List D} {v : VE} : zipV (.lst o xs) (.lst p ys) v = .ok (zipD (D.fzs xs) (D.fzs ys), v) := rfl
@[simp] theorem zipV_t {xs ys : List D} {v : VE} : zipV (.tup xs) (.tup ys) v = .ok (zipD xs ys, v) := rfl
@[simp] theorem evI_zip {a b : E} : evI T call (.zip a b) env = (evX T call false a env).bind fun p => (evX T call false b p.2).bind fun q => zipV p.1 q.1 q.2 := by rw [evI] <;> rfl
def enuV (a : D) (v : VE) : Rr (List D × VE) := match a with
    | .lst _ xs => .ok (enuD 0 (D.fzs xs), v)
    | .tup xs => .ok (enuD 0 xs, v)
    | _ => .no
@[simp] theorem enuV_l {o : Bool} {xs : List D} {v : VE} : enuV (.lst o xs) v = .ok (enuD 0 (D.fzs xs), v) := rfl
@[simp] theorem enuV_t {xs : List D} {v : VE} : enuV (.tup xs) v = .ok (enuD 0 xs, v) := rfl
@[simp] theorem evI_enu {a : E} : evI T call (.enu a) env = (evX T call false a env).bind fun p => enuV p.1 p.2 := by rw [evI] <;> rfl
/-! what may change the frame's own -/
@[simp] theorem muEs_nil : muEs T .nil = false := by rw [muEs]
@[simp] theorem muEs_cons {e : E} {es : Es} : muEs T (.cons e es) = (muE T e || muEs T es) := by rw [muEs]
@[simp] theorem muE_var {i : Nat} : muE T (.var i) = false := by rw [muE]
@[simp] theorem muE_con {d : D} : muE T (.con d) = false := by rw [muE]
@[simp] theorem muE_glo {d : D} : muE T (.glo d) = false := by rw [muE]
@[simp] theorem muE_neg {a : E} : muE T (.neg a) = muE T a := by rw [muE]
@[simp] theorem muE_frz {a : E} : muE T (.frz a) = muE T a := by rw [muE]
@[simp] theorem muE_not {a : E} : muE T (.not a) = muE T a := by rw [muE]
@[simp] theorem muE_bin {o : Bop} {a b : E} : muE T (.bin o a b) = (muE T a || muE T b) := by rw [muE]
@[simp] theorem muE_cmp {o : Cop} {a b : E} : muE T (.cmp o a b) = (muE T a || muE T b) := by rw [muE]
@[simp] theorem muE_bool {b : Bool} {as : Es} : muE T (.bool b as) = muEs T as := by rw [muE]
@[simp] theorem muE_attr {o : E} {f : Str} : muE T (.attr o f) = muE T o := by rw [muE]
@[simp] theorem muE_sub {o i : E} : muE T (.sub o i) = (muE T o || muE T i) := by rw [muE]
@[simp] theorem muE_tup {as : Es} : muE T (.tup as) = muEs T as := by rw [muE]
@[simp] theorem muE_lst {as : Es} : muE T (.lst as) = muEs T as := by rw [muE]
@[simp] theorem muE_blt {b : Blt} {as : Es} : muE T (.blt b as) = muEs T as := by rw [muE]
@[simp] theorem muE_comp {e : E} {ts : List Nat} {tu : Bool} {it : I} {ifs : Es} : muE T (.comp e ts tu it ifs) = (muE T e || muI T it || muEs T ifs) := by rw [muE]
@[simp] theorem muI_val {e : E} : muI T (.val e) = muE T e := by rw [muI]
@[simp] theorem muI_rng {as : Es} : muI T (.rng as) = muEs T as := by rw [muI]
theorem muE_call {f : Nat} {as kv : Es} {ks : List Str} {fn : FnI} (hf : T.fns[f]? = some fn) : muE T (.call f as ks kv) = (fn.mu || muEs T as || muEs T kv) := by
  rw [muE, hf]
/-! places -/
@[simp] theorem peek_var {i : Nat} : peek (.var i) env = getV env i := by rw [peek] <;> rfl
@[simp] theorem peek_sub {o i : E} : peek (.sub o i) env = (peek o env).bind fun d => (smp i env).bind fun k => (items d).bind fun xs => ixD xs k := by rw [peek] <;> rfl
theorem peek_no {e : E} (h : isPl e = false) : peek e env = none := by cases e <;> first | (simp [isPl] at h; done) | (rw [peek] <;> simp)
@[simp] theorem peek_con {d : D} : peek (.con d) env = none := peek_no rfl
@[simp] theorem peek_glo {d : D} : peek (.glo d) env = none := peek_no rfl
@[simp] theorem peek_attr {o : E} {f : Str} : peek (.attr o f) env = none := peek_no rfl
@[simp] theorem peek_call {f : Nat} {as kv : Es} {ks : List Str} : peek (.call f as ks kv) env = none := peek_no rfl
@[simp] theorem peek_lst {as : Es} : peek (.lst as) env = none := peek_no rfl
@[simp] theorem peek_tup {as : Es} : peek (.tup as) env = none := peek_no rfl
@[simp] theorem peek_bin {o : Bop} {a b : E} : peek (.bin o a b) env = none := peek_no rfl
@[simp] theorem peek_comp {e : E} {ts : List Nat} {tu : Bool} {it : I} {ifs : Es} : peek (.comp e ts tu it ifs) env = none := peek_no rfl
@[simp] theorem peek_blt {b : Blt} {as : Es} : peek (.blt b as) env = none := peek_no rfl
@[simp] theorem smp_con {k : Int} : smp (.con (.int k)) env = some k := by rw [smp] <;> rfl
theorem smp_var {i : Nat} : smp (.var i) env = (match getV env i with | some (.int k) => some k | _ => none) := by rw [smp] <;> rfl
def intO : Option D → Option Int
  | some (.int k) => some k
  | _ => none
@[simp] theorem intO_some {k : Int} : intO (some (.int k)) = some k := rfl
@[simp] theorem smp_varO {i : Nat} : smp (.var i) env = intO (getV env i) := by
  rw [smp]
  unfold intO
  cases getV env i with
  | none => rfl
  | some d => cases d <;> rfl
@[simp] theorem smp_neg {a : E} : smp (.neg a) env = (smp a env).map fun k => -k := by rw [smp] <;> rfl
@[simp] theorem smp_bin {o : Bop} {a b : E} : smp (.bin o a b) env = (smp a env).bind fun x => (smp b env).bind fun y => intB o x y := by rw [smp] <;> rfl
@[simp] theorem smp_sub {o i : E} : smp (.sub o i) env = (peek o env).bind fun d => (smp i env).bind fun k => (items d).bind fun xs => intO (ixD xs k) := by
  rw [smp]
  cases peek o env with
  | none => rfl
  | some d =>
    cases smp i env with
    | none => rfl
    | some k =>
      simp only [Option.bind_some]
      cases items d with
      | none => rfl
      | some xs =>
        simp only [Option.bind_some]
        cases ixD xs k with
        | none => rfl
        | some x => cases x <;> rfl
@[simp] theorem smp_call {f : Nat} {as kv : Es} {ks : List Str} : smp (.call f as ks kv) env = none := by rw [smp] <;> simp
@[simp] theorem smp_attr {o : E} {f : Str} : smp (.attr o f) env = none := by rw [smp] <;> simp
@[simp] theorem smp_len {as : Es} : smp (.blt .len as) env = smpLen as env := by rw [smp] <;> rfl
@[simp] theorem smpLen_one {p : E} : smpLen (.cons p .nil) env = (peek p env).bind fun d => (items d).map fun xs => (xs.length : Int) := by rw [smpLen] <;> rfl
@[simp] theorem isPl_var {i : Nat} : isPl (.var i) = true := rfl
@[simp] theorem isPl_sub {o i : E} : isPl (.sub o i) = true := rfl
@[simp] theorem isPl_call {f : Nat} {as kv : Es} {ks : List Str} : isPl (.call f as ks kv) = false := rfl
@[simp] theorem isPl_lst {as : Es} : isPl (.lst as) = false := rfl
@[simp] theorem isPl_tup {as : Es} : isPl (.tup as) = false := rfl
@[simp] theorem isPl_bin {o : Bop} {a b : E} : isPl (.bin o a b) = false := rfl
@[simp] theorem isPl_comp {e : E} {ts : List Nat} {tu : Bool} {it : I} {ifs : Es} : isPl (.comp e ts tu it ifs) = false := rfl
@[simp] theorem isPl_blt {b : Blt} {as : Es} : isPl (.blt b as) = false := rfl
@[simp] theorem isPl_attr {o : E} {f : Str} : isPl (.attr o f) = false := rfl
@[simp] theorem rootE_var {i : Nat} : rootE (.var i) = some i := rfl
@[simp] theorem rootE_sub {o i : E} : rootE (.sub o i) = rootE o := rfl
/-! tests -/
def toB (r : Rr (D × VE)) : Rr (Bool × VE) := r.bind fun p => match p.1 with | .bl b => .ok (b, p.2) | _ => .no
@[simp] theorem toB_ok {b : Bool} {e : VE} : toB (.ok (.bl b, e)) = .ok (b, e) := rfl
@[simp] theorem evT_eq {e : E} : evT T call e env = toB (evX T call true e env) := rfl
/-! comparisons -/
@[simp] theorem evC_lt {a b : Int} : evC .lt (.int a) (.int b) env = .ok (.bl (decide (a < b)), env) := rfl
@[simp] theorem evC_le {a b : Int} : evC .le (.int a) (.int b) env = .ok (.bl (decide (a ≤ b)), env) := rfl
@[simp] theorem evC_gt {a b : Int} : evC .gt (.int a) (.int b) env = .ok (.bl (decide (b < a)), env) := rfl
@[simp] theorem evC_ge {a b : Int} : evC .ge (.int a) (.int b) env = .ok (.bl (decide (b ≤ a)), env) := rfl
@[simp] theorem evC_is {a : D} : evC .is a .non env = .ok (.bl a.isNon, env) := rfl
@[simp] theorem evC_isn {a : D} : evC .isn a .non env = .ok (.bl (!a.isNon), env) := rfl
@[simp] theorem evC_eq {a b : D} : evC .eq a b env = optR ((eqD a b).map fun r => (.bl r, env)) := rfl
@[simp] theorem evC_ne {a b : D} : evC .ne a b env = optR ((eqD a b).map fun r => (.bl !r, env)) := by
  show optR (((eqD a b).map (!·)).map fun r => (D.bl r, env)) = _
  cases eqD a b with
  | none => rfl
  | some x => rfl
@[simp] theorem eqD_int {a b : Int} : eqD (.int a) (.int b) = some (decide (a = b)) := by
  show (if SeqAt.shaped (.int a) && SeqAt.shaped (.int b) then some (PyData.eqv (.int a) (.int b)) else none) = _
  have h : (SeqAt.shaped (.int a) && SeqAt.shaped (.int b)) = true := rfl
  rw [h]
  show some (PyData.eqv (.int a) (.int b)) = _
  congr 1
/-! operators -/
@[simp] theorem binD_add {a b : Int} : binD .add (.int a) (.int b) = some (.int (a + b)) := rfl
@[simp] theorem binD_sub {a b : Int} : binD .sub (.int a) (.int b) = some (.int (a - b)) := rfl
theorem binD_mul {a b : Int} (h : bitsOk a b = true) : binD .mul (.int a) (.int b) = some (.int (a * b)) := by
  show (if bitsOk a b then _ else _) = _
  rw [if_pos h]
theorem binD_mod {a b : Int} (h : 0 < b) : binD .mod (.int a) (.int b) = some (.int (a % b)) := by
  show (if decide (0 < b) then _ else _) = _
  rw [if_pos (decide_eq_true h)]
@[simp] theorem intB_add {a b : Int} : intB .add a b = some (a + b) := rfl
@[simp] theorem intB_sub {a b : Int} : intB .sub a b = some (a - b) := rfl
@[simp] theorem blt_int {i : Int} : bltD .int [.int i] = some (.int i) := rfl
@[simp] theorem blt_lenL {o : Bool} {xs : List D} : bltD .len [.lst o xs] = some (.int xs.length) := rfl
@[simp] theorem blt_lenT {xs : List D} : bltD .len [.tup xs] = some (.int xs.length) := rfl
@[simp] theorem blt_tup {o : Bool} {xs : List D} (h : D.allFz xs = true) : bltD .tuple [.lst o xs] = some (.tup xs) := by
  show (if _ then _ else _) = _
  rw [if_pos h]
@[simp] theorem blt_tupT {xs : List D} : bltD .tuple [.tup xs] = some (.tup xs) := rfl
@[simp] theorem blt_list {o : Bool} {xs : List D} (h : D.allFz xs = true) : bltD .list [.lst o xs] = some (.lst true xs) := by
  show (if _ then _ else _) = _
  rw [if_pos h]
@[simp] theorem blt_listT {xs : List D} (h : D.allFz xs = true) : bltD .list [.tup xs] = some (.lst true xs) := by
  show (if _ then _ else _) = _
  rw [if_pos h]
@[simp] theorem blt_sum {o : Bool} {xs : List D} : bltD .sum [.lst o xs] = (D.ints xs).map fun l => .int l.sum := rfl
@[simp] theorem blt_any {o : Bool} {xs : List D} : bltD .any [.lst o xs] = (D.bls xs).map fun l => .bl (l.any id) := rfl
@[simp] theorem blt_all {o : Bool} {xs : List D} : bltD .all [.lst o xs] = (D.bls xs).map fun l => .bl (l.all id) := rfl
@[simp] theorem blt_min {a b : Int} : bltD .min [.int a, .int b] = some (.int (if b < a then b else a)) := rfl
@[simp] theorem blt_max {a b : Int} : bltD .max [.int a, .int b] = some (.int (if b > a then b else a)) := rfl
end
/-! ### statements -/
section
variable {T : Tab} {call : Nat → List D → CR} {env : VE}
@[simp] theorem evBl_nil : evBl T call .nil env = .nx env := by rw [evBl] <;> rfl
/-- one statement's end, then the rest -/
def seqB (T : Tab) (call : Nat → List D → CR) (r : Fl) (b : B) : Fl := match r with
  | .nx v => evBl T call b v
  | r => r
@[simp] theorem seqB_nx {v : VE} {b : B} : seqB T call (.nx v) b = evBl T call b v := rfl
@[simp] theorem seqB_rt {d : D} {v : VE} {b : B} : seqB T call (.rt d v) b = .rt d v := rfl
@[simp] theorem seqB_bk {v : VE} {b : B} : seqB T call (.bk v) b = .bk v := rfl
@[simp] theorem seqB_ct {v : VE} {b : B} : seqB T call (.ct v) b = .ct v := rfl
@[simp] theorem seqB_ex {c : Nat} {xs : List D} {v : VE} {b : B} : seqB T call (.ex c xs v) b = .ex c xs v := rfl
@[simp] theorem evBl_cons {s : S} {b : B} : evBl T call (.cons s b) env = seqB T call (evS T call s env) b := by
  rw [evBl]
  cases evS T call s env <;> rfl
/-- a test's end, then the branch -/
def ifB (T : Tab) (call : Nat → List D → CR) (r : Rr (Bool × VE)) (a b : B) : Fl := r.fl fun p => if p.1 then evBl T call a p.2 else evBl T call b p.2
@[simp] theorem ifB_ok {k : Bool} {e : VE} {a b : B} : ifB T call (.ok (k, e)) a b = if k then evBl T call a e else evBl T call b e := rfl
def forB (T : Tab) (call : Nat → List D → CR) (ts : List Nat) (tu : Bool) (body : B) (r : Rr (List D × VE)) : Fl := r.fl fun p => forL ts tu (fun v => evBl T call body v) p.1 p.2
def forC (T : Tab) (call : Nat → List D → CR) (ts : List Nat) (tu : Bool) (body : B) (xs : List D) (env : VE) : Fl := forL ts tu (fun v => evBl T call body v) xs env
@[simp] theorem forB_ok {ts : List Nat} {tu : Bool} {body : B} {xs : List D} {e : VE} : forB T call ts tu body (.ok (xs, e)) = forC T call ts tu body xs e := rfl
def whB (T : Tab) (call : Nat → List D → CR) (c : E) (body : B) (env : VE) : Fl := whL (fun v => evT T call c v) (fun v => evBl T call body v) whF env
@[simp] theorem evS_asg {i : Nat} {e : E} : evS T call (.asg i e) env = (evX T call false e env).fl fun p => .nx (setV p.2 i p.1) := by rw [evS] <;> rfl
def nxO : Option VE → Fl
  | some v => .nx v
  | none => .no
@[simp] theorem nxO_some {v : VE} : nxO (some v) = .nx v := rfl
@[simp] theorem evS_asgT {is : List Nat} {e : E} : evS T call (.asgT is e) env = (evX T call false e env).fl fun p => nxO (setT p.2 is true p.1) := by
  have h : (fun p : D × VE => (match setT p.2 is true p.1 with | some v => Fl.nx v | none => .no)) = fun p => nxO (setT p.2 is true p.1) := by
    funext p
    cases setT p.2 is true p.1 <;> rfl
  rw [evS, ← h] <;> rfl
@[simp] theorem evS_par {i j : Nat} {a b : E} : evS T call (.par i j a b) env = (evX T call false a env).fl fun p => (evX T call false b p.2).fl fun q => if i = j then .no else .nx (setV (setV q.2 i p.1) j q.1) := by rw [evS] <;> rfl
@[simp] theorem evS_asgF {fs : List Str} {tu : Bool} {e : E} : evS T call (.asgF fs tu e) env = (evX T call false e env).fl fun p => match getV p.2 0 with
    | some d => match tu, fs with
      | false, [f] => match asgD T d f p.1.fz with
        | some d' => .nx (setV p.2 0 d')
        | none => .no
      | true, fs => match p.1 with
        | .tup xs => match asgDs T d fs xs with
          | some d' => .nx (setV p.2 0 d')
          | none => .no
        | _ => .no
      | _, _ => .no
    | none => .no := by rw [evS] <;> rfl
/-- an item of an owned list stored -/
def stI (k : Int) (x : D) : D → Option D := fun d => match d with
  | .lst true xs => if 0 ≤ k ∧ k < xs.length then some (.lst true (xs.set k.toNat x)) else none
  | _ => none
@[simp] theorem evS_asgS {o i e : E} : evS T call (.asgS o i e) env = (evX T call false e env).fl fun p => match smp i p.2 with
    | some k => nxO (updP o p.2 (stI k p.1))
    | none => .no := by
  have h : (fun p : D × VE => (match smp i p.2 with
      | some k => (match updP o p.2 (stI k p.1) with | some v => Fl.nx v | none => .no)
      | none => .no)) = fun p => (match smp i p.2 with
      | some k => nxO (updP o p.2 (stI k p.1))
      | none => .no) := by
    funext p
    cases smp i p.2 with
    | none => rfl
    | some k =>
      show (match updP o p.2 (stI k p.1) with | some v => Fl.nx v | none => .no) = nxO (updP o p.2 (stI k p.1))
      cases updP o p.2 (stI k p.1) <;> rfl
  rw [evS, ← h] <;> rfl
@[simp] theorem evS_aug {i : Nat} {o : Bop} {e : E} : evS T call (.aug i o e) env = (match getV env i with
    | some (.int a) => (evX T call false e env).fl fun p => match p.1 with
      | .int b => match intB o a b with
        | some r => .nx (setV p.2 i (.int r))
        | none => .no
      | _ => .no
    | _ => .no) := by rw [evS] <;> rfl
@[simp] theorem evS_augS {o i e : E} {p : Bop} : evS T call (.augS o i p e) env = (match intO (peek (.sub o i) env), smp e env, smp i env with
    | some a, some b, some k => match intB p a b with
      | some r => nxO (updP o env (stI k (.int r)))
      | none => .no
    | _, _, _ => .no) := by
  rw [evS]
  cases h : peek (.sub o i) env with
  | none => simp only [intO]
  | some d =>
    cases d with
    | int a =>
      cases smp e env with
      | none => rfl
      | some b =>
        cases smp i env with
        | none => rfl
        | some k =>
          simp only [intO]
          cases intB p a b with
          | none => rfl
          | some r =>
            show (match updP o env (stI k (.int r)) with | some v => Fl.nx v | none => .no) = nxO (updP o env (stI k (.int r)))
            cases updP o env (stI k (.int r)) <;> rfl
    | _ => rfl
@[simp] theorem evS_if {c : E} {a b : B} : evS T call (.ifS c a b) env = ifB T call (evT T call c env) a b := by rw [evS] <;> rfl
@[simp] theorem evS_for {ts : List Nat} {tu : Bool} {it : I} {body : B} : evS T call (.forS ts tu it body) env = forB T call ts tu body (evI T call it env) := by rw [evS] <;> rfl
@[simp] theorem evS_wh {c : E} {body : B} : evS T call (.whS c body) env = whB T call c body env := by rw [evS] <;> rfl
theorem evS_ret {e : E} (h : ∀ i, e ≠ .var i) : evS T call (.ret e) env = (evX T call false e env).fl fun p => .rt p.1 p.2 := by
  rw [evS]
  exact h
def rtO (o : Option D) (env : VE) (i : Nat) : Fl := match o with
  | some d => .rt d (delV env i)
  | none => .no
@[simp] theorem rtO_some {d : D} {i : Nat} : rtO (some d) env i = .rt d (delV env i) := rfl
@[simp] theorem evS_retV {i : Nat} : evS T call (.ret (.var i)) env = rtO (getV env i) env i := by
  rw [evS]
  cases getV env i <;> rfl
@[simp] theorem ret_con {d : D} : evS T call (.ret (.con d)) env = .rt d env := by rw [evS_ret (by simp)]; simp
@[simp] theorem ret_call {f : Nat} {as kv : Es} {ks : List Str} : evS T call (.ret (.call f as ks kv)) env = (evX T call false (.call f as ks kv) env).fl fun p => .rt p.1 p.2 := evS_ret (by simp)
@[simp] theorem ret_bin {o : Bop} {a b : E} : evS T call (.ret (.bin o a b)) env = (evX T call false (.bin o a b) env).fl fun p => .rt p.1 p.2 := evS_ret (by simp)
@[simp] theorem ret_cmp {o : Cop} {a b : E} : evS T call (.ret (.cmp o a b)) env = (evX T call false (.cmp o a b) env).fl fun p => .rt p.1 p.2 := evS_ret (by simp)
@[simp] theorem ret_bool {o : Bool} {as : Es} : evS T call (.ret (.bool o as)) env = (evX T call false (.bool o as) env).fl fun p => .rt p.1 p.2 := evS_ret (by simp)
@[simp] theorem ret_not {a : E} : evS T call (.ret (.not a)) env = (evX T call false (.not a) env).fl fun p => .rt p.1 p.2 := evS_ret (by simp)
@[simp] theorem ret_ite {a b c : E} : evS T call (.ret (.ite a b c)) env = (evX T call false (.ite a b c) env).fl fun p => .rt p.1 p.2 := evS_ret (by simp)
@[simp] theorem ret_attr {o : E} {f : Str} : evS T call (.ret (.attr o f)) env = (evX T call false (.attr o f) env).fl fun p => .rt p.1 p.2 := evS_ret (by simp)
@[simp] theorem ret_sub {o i : E} : evS T call (.ret (.sub o i)) env = (evX T call false (.sub o i) env).fl fun p => .rt p.1 p.2 := evS_ret (by simp)
@[simp] theorem ret_tup {as : Es} : evS T call (.ret (.tup as)) env = (evX T call false (.tup as) env).fl fun p => .rt p.1 p.2 := evS_ret (by simp)
@[simp] theorem ret_lst {as : Es} : evS T call (.ret (.lst as)) env = (evX T call false (.lst as) env).fl fun p => .rt p.1 p.2 := evS_ret (by simp)
@[simp] theorem ret_comp {e : E} {ts : List Nat} {tu : Bool} {it : I} {ifs : Es} : evS T call (.ret (.comp e ts tu it ifs)) env = (evX T call false (.comp e ts tu it ifs) env).fl fun p => .rt p.1 p.2 := evS_ret (by simp)
@[simp] theorem ret_blt {b : Blt} {as : Es} : evS T call (.ret (.blt b as)) env = (evX T call false (.blt b as) env).fl fun p => .rt p.1 p.2 := evS_ret (by simp)
@[simp] theorem evS_retN : evS T call .retN env = .rt .non env := by rw [evS] <;> rfl
theorem evS_rai {c : Nat} {as : Es} : evS T call (.rai c as) env = if raiC T c then (evEs T call as env).fl fun p => match T.cls[c]? with
    | some cl => if decide (p.1.length = cl.fl.length) then .ex c (D.fzs p.1) p.2 else .no
    | none => .no
    else .no := by rw [evS] <;> rfl
@[simp] theorem evS_ex {e : E} : evS T call (.ex e) env = (evX T call false e env).fl fun p => .nx p.2 := by rw [evS] <;> rfl
@[simp] theorem evS_pass : evS T call .pass env = .nx env := by rw [evS] <;> rfl
@[simp] theorem evS_brk : evS T call .brk env = .bk env := by rw [evS] <;> rfl
@[simp] theorem evS_cnt : evS T call .cnt env = .ct env := by rw [evS] <;> rfl
/-- a call's end -/
def endF (mu : Bool) (r : Fl) : CR := match r with
  | .rt d env => .ok d (finD mu env)
  | .nx env => .ok .non (finD mu env)
  | .ex c xs _ => .ex c xs
  | _ => .no
@[simp] theorem endF_rt {mu : Bool} {d : D} {e : VE} : endF mu (.rt d e) = .ok d (finD mu e) := rfl
@[simp] theorem endF_nx {mu : Bool} {e : VE} : endF mu (.nx e) = .ok .non (finD mu e) := rfl
@[simp] theorem endF_ex {mu : Bool} {c : Nat} {xs : List D} {e : VE} : endF mu (.ex c xs e) = .ex c xs := rfl
@[simp] theorem finD_f {e : VE} : finD false e = none := rfl
theorem callF_eq {n f : Nat} {ds : List D} {fn : FnI} (hf : T.fns[f]? = some fn) (hl : ds.length = fn.np) (ha : VS.argsOk fn.mu ds = true) :
    callF T (n + 1) f ds = endF fn.mu (evBl T (callF T n) fn.code (ds.map some ++ List.replicate (fn.ns - fn.np) none)) := by
  rw [callF, hf]
  show (if decide (ds.length = fn.np) && VS.argsOk fn.mu ds then _ else _) = _
  rw [if_pos (by rw [decide_eq_true hl, ha]; rfl)]
  rfl
theorem callR_ok {f : Nat} {ds : List D} {fn : FnI} {d : D} {o : Option D} (hf : T.fns[f]? = some fn) (hm : fn.mu = false) (ha : D.allFz ds = true) (hl : ds.length = fn.np) (hc : call f ds = .ok d o) : callR T call f ds env = .ok (d, env) := by
  unfold callR
  rw [hf]
  simp only [hm, ha, hl, hc]
  simp
theorem callR_ex {f : Nat} {ds : List D} {fn : FnI} {c : Nat} {xs : List D} (hf : T.fns[f]? = some fn) (hm : fn.mu = false) (ha : D.allFz ds = true) (hl : ds.length = fn.np) (hc : call f ds = .ex c xs) : callR T call f ds env = .ex c xs env := by
  unfold callR
  rw [hf]
  simp only [hm, ha, hl, hc]
  simp
end
end VS
set_option Elab.async false
set_option linter.all false
set_option maxRecDepth 100000
set_option maxHeartbeats 2000000
/-! VPc: loops, calls, classes by rewriting. -/
namespace VS
open PySem PySem.Spec PyProof.Rows L2
@[simp] theorem lenOk_eq {n : Nat} : lenOk n = decide (n ≤ 16000000) := rfl
theorem smallI_nat {n : Nat} (h : n ≤ 1000000) : smallI (n : Int) = true := by
  unfold smallI
  simp only [Bool.and_eq_true, decide_eq_true_eq]; omega
theorem smallI_of {i : Int} (h : -1000000 ≤ i) (h2 : i ≤ 1000000) : smallI i = true := by
  unfold smallI
  simp only [Bool.and_eq_true, decide_eq_true_eq]; omega
mutual
theorem isFz_fz : ∀ d : D, d.fz.isFz = true
  | .non => rfl | .bl _ => rfl | .int _ => rfl | .str _ => rfl | .cls _ => rfl | .ty _ => rfl | .rng _ _ => rfl
  | .tup xs => allFz_fzs xs
  | .lst _ xs => by show (!false && D.allFz (D.fzs xs)) = true; rw [allFz_fzs xs]; rfl
  | .obj _ _ xs => by show (!false && D.allFz (D.fzs xs)) = true; rw [allFz_fzs xs]; rfl
  | .exv _ xs => allFz_fzs xs
theorem allFz_fzs : ∀ ds : List D, D.allFz (D.fzs ds) = true
  | [] => rfl
  | d :: ds => by show (d.fz.isFz && D.allFz (D.fzs ds)) = true; rw [isFz_fz d, allFz_fzs ds]; rfl
end
@[simp] theorem isFz_fz' (d : D) : d.fz.isFz = true := isFz_fz d
@[simp] theorem allFz_fzs' (ds : List D) : D.allFz (D.fzs ds) = true := allFz_fzs ds
/-! isinstance -/
@[simp] theorem blt_isLT {a : D} : bltD .isinst [a, .tup [.ty "list", .ty "tuple"]] = (isLT a).map .bl := rfl
@[simp] theorem blt_isTy {a : D} {n : String} : bltD .isinst [a, .ty n] = (isinst1 a (.ty n)).map .bl := rfl
@[simp] theorem blt_isCl {a : D} {n : Nat} : bltD .isinst [a, .cls n] = (isinst1 a (.cls n)).map .bl := rfl
@[simp] theorem isLT_lst {o : Bool} {xs : List D} : isLT (.lst o xs) = some true := rfl
@[simp] theorem isLT_tup {xs : List D} : isLT (.tup xs) = some true := rfl
@[simp] theorem isLT_int {i : Int} : isLT (.int i) = some false := rfl
@[simp] theorem isLT_non : isLT .non = some false := rfl
@[simp] theorem isLT_str {s : List Nat} : isLT (.str s) = some false := rfl
@[simp] theorem isLT_bl {b : Bool} : isLT (.bl b) = some false := rfl
@[simp] theorem isI_int {i : Int} : isinst1 (.int i) (.ty "int") = some true := rfl
@[simp] theorem isI_bl {b : Bool} : isinst1 (.bl b) (.ty "int") = some true := rfl
@[simp] theorem isI_tup {xs : List D} : isinst1 (.tup xs) (.ty "int") = some false := rfl
@[simp] theorem isI_lst {o : Bool} {xs : List D} : isinst1 (.lst o xs) (.ty "int") = some false := rfl
@[simp] theorem isI_str {s : List Nat} : isinst1 (.str s) (.ty "int") = some false := rfl
@[simp] theorem isI_non : isinst1 .non (.ty "int") = some false := rfl
@[simp] theorem isB_int {i : Int} : isinst1 (.int i) (.ty "bool") = some false := rfl
@[simp] theorem isB_bl {b : Bool} : isinst1 (.bl b) (.ty "bool") = some true := rfl
@[simp] theorem isB_non : isinst1 .non (.ty "bool") = some false := rfl
@[simp] theorem isB_str {s : List Nat} : isinst1 (.str s) (.ty "bool") = some false := rfl
@[simp] theorem isB_tup {xs : List D} : isinst1 (.tup xs) (.ty "bool") = some false := rfl
@[simp] theorem isB_lst {o : Bool} {xs : List D} : isinst1 (.lst o xs) (.ty "bool") = some false := rfl
@[simp] theorem isC_obj {o : Bool} {xs : List D} {c k : Nat} : isinst1 (.obj o c xs) (.cls k) = some (decide (c = k)) := rfl
/-! calls -/
/-- what a call hands back -/
def toR (r : CR) (e : VE) : Rr (D × VE) := match r with
  | .ok d _ => .ok (d, e)
  | .ex c xs => .ex c xs e
  | .no => .no
@[simp] theorem toR_ok {d : D} {o : Option D} {e : VE} : toR (.ok d o) e = .ok (d, e) := rfl
@[simp] theorem toR_ex {c : Nat} {xs : List D} {e : VE} : toR (.ex c xs) e = .ex c xs e := rfl
/-- .. a call that changes its first argument, slot i -/
def toM (r : CR) (e : VE) (i : Nat) : Rr (D × VE) := match r with
  | .ok d (some d') => .ok (d, setV e i d')
  | _ => .no
@[simp] theorem toM_ok {d d' : D} {e : VE} {i : Nat} : toM (.ok d (some d')) e i = .ok (d, setV e i d') := rfl
/-- .. a new object's __init__ -/
def toN (r : CR) (e : VE) : Rr (D × VE) := match r with
  | .ok .non (some d) => .ok (d.fz, e)
  | .ex k xs => .ex k xs e
  | _ => .no
@[simp] theorem toN_ok {d : D} {e : VE} : toN (.ok .non (some d)) e = .ok (d.fz, e) := rfl
@[simp] theorem toN_ex {c : Nat} {xs : List D} {e : VE} : toN (.ex c xs) e = .ex c xs e := rfl
def mutC (o : Option (List D)) (k : List D → Rr (D × VE)) : Rr (D × VE) := match o with
  | some xs => k xs
  | none => .no
@[simp] theorem mutC_some {xs : List D} {k : List D → Rr (D × VE)} : mutC (some xs) k = k xs := rfl
@[simp] theorem finD_lst {xs : List D} {r : VE} : finD true (some (.lst true xs) :: r) = some (.lst true xs) := rfl
@[simp] theorem finD_obj {c : Nat} {xs : List D} {r : VE} : finD true (some (.obj true c xs) :: r) = some (.obj true c xs) := rfl
section
variable {T : Tab} {call : Nat → List D → CR} {env : VE} {m : Bool}
theorem callR_fr {f : Nat} {ds : List D} {fn : FnI} (hf : T.fns[f]? = some fn) (hm : fn.mu = false) (ha : D.allFz ds = true) (hl : ds.length = fn.np) : callR T call f ds env = toR (call f ds) env := by
  unfold callR
  rw [hf]
  simp only [hm, ha, hl]
  simp
  rfl
def fldR (o : Option D) (env : VE) : Rr (D × VE) := match o with
  | some d => if d.isFz then .ok (d, env) else .no
  | none => .no
@[simp] theorem fldR_some {d : D} (h : d.isFz = true) : fldR (some d) env = .ok (d, env) := if_pos h
theorem attr_fld {o : Bool} {c : Nat} {vs : List D} {f : Str} {cl : ClsI} {j : Nat} (hc : T.cls[c]? = some cl) (hj : idxF f cl.fl = some j) : attrD T call (.obj o c vs) f env = fldR vs[j]? env := by
  unfold attrD
  simp only [hc, hj]
  cases vs[j]? <;> rfl
@[simp] theorem okOnly_ok {α : Type} {a : α} : okOnly (.ok a) = .ok a := rfl
theorem attr_prop {c : Nat} {vs : List D} {f : Str} {cl : ClsI} {g : Nat} {fn : FnI} (hc : T.cls[c]? = some cl) (hj : idxF f cl.fl = none) (hp : findF f cl.props = some g) (hf : T.fns[g]? = some fn) (hm : fn.mu = false) (hn : fn.np = 1) (ht : hasTriv fn 1 = true) (h : D.allFz vs = true) :
    attrD T call (.obj false c vs) f env = okOnly (toR (call g [.obj false c vs]) env) := by
  unfold attrD
  simp only [hc, hj, hp]
  rw [if_pos (by simpa using h)]
  unfold callP
  rw [hf]
  simp only [List.length_cons, List.length_nil, Nat.zero_add, ht, if_true]
  rw [callR_fr hf hm (by simpa using h) (by rw [hn]; rfl)]
theorem sub_item {c : Nat} {vs : List D} {k : D} {cl : ClsI} {g : Nat} {fn : FnI} (hc : T.cls[c]? = some cl) (hp : cl.item = some g) (hf : T.fns[g]? = some fn) (hm : fn.mu = false) (hn : fn.np = 2) (ht : hasTriv fn 2 = true) (h : D.allFz vs = true) (hk : k.isFz = true) :
    subD T call (.obj false c vs) k env = toR (call g [.obj false c vs, k]) env := by
  unfold subD
  simp only [hc, hp]
  unfold callP
  rw [hf]
  simp only [List.length_cons, List.length_nil, Nat.zero_add, ht, if_true]
  rw [callR_fr hf hm (by simp [h, hk]) (by rw [hn]; rfl)]
@[simp] theorem subD_lst {o : Bool} {xs : List D} {i : Int} : subD T call (.lst o xs) (.int i) env = optR ((ixD xs i).map fun x => (x, env)) := rfl
@[simp] theorem subD_tup {xs : List D} {i : Int} : subD T call (.tup xs) (.int i) env = optR ((ixD xs i).map fun x => (x, env)) := rfl
/-! exceptions -/
def tryF (T : Tab) (call : Nat → List D → CR) (r : Fl) (hs : Hs) : Fl := match r with
  | .ex c xs e => evHs T call hs c xs e
  | r => r
@[simp] theorem tryF_nx {v : VE} {hs : Hs} : tryF T call (.nx v) hs = .nx v := rfl
@[simp] theorem tryF_rt {d : D} {v : VE} {hs : Hs} : tryF T call (.rt d v) hs = .rt d v := rfl
@[simp] theorem tryF_ex {c : Nat} {xs : List D} {v : VE} {hs : Hs} : tryF T call (.ex c xs v) hs = evHs T call hs c xs v := rfl
@[simp] theorem evS_try {b : B} {hs : Hs} : evS T call (.tryS b hs) env = tryF T call (evBl T call b env) hs := by
  rw [evS]
  cases evBl T call b env <;> rfl
/-- an except suite's end -/
def hdF (i : Nat) (r : Fl) : Fl := match r with
  | .nx e => if envNoX (delV e i) then .nx (delV e i) else .no
  | .rt d e => if envNoX (delV e i) && d.noX then .rt d (delV e i) else .no
  | _ => .no
@[simp] theorem hdF_nx {i : Nat} {e : VE} (h : envNoX (delV e i) = true) : hdF i (.nx e) = .nx (delV e i) := if_pos h
@[simp] theorem hdF_rt {i : Nat} {e : VE} {d : D} (h : envNoX (delV e i) = true) (h2 : d.noX = true) : hdF i (.rt d e) = .rt d (delV e i) := if_pos (by rw [h, h2]; rfl)
theorem evHs_hit {k i c : Nat} {b : B} {hs : Hs} {xs : List D} (h1 : excC T c = true) (h2 : excC T k = true) (h3 : subC T c k = true) : evHs T call (.cons k (some i) b hs) c xs env = hdF i (evBl T call b (setV env i (.exv c xs))) := by
  rw [evHs]
  rw [h1, h2, h3]
  simp only [Bool.and_self, Bool.not_true, Bool.false_eq_true, if_false, if_true]
  cases evBl T call b (setV env i (.exv c xs)) <;> rfl
theorem evHs_miss {k i c : Nat} {b : B} {hs : Hs} {xs : List D} (h1 : excC T c = true) (h2 : excC T k = true) (h3 : subC T c k = false) : evHs T call (.cons k (some i) b hs) c xs env = evHs T call hs c xs env := by
  rw [evHs]
  rw [h1, h2, h3]
  simp
@[simp] theorem evHs_nil {c : Nat} {xs : List D} : evHs T call .nil c xs env = .ex c xs env := by rw [evHs]
theorem rai_ok {c : Nat} {as : Es} {cl : ClsI} (h1 : raiC T c = true) (hc : T.cls[c]? = some cl) : evS T call (.rai c as) env = (evEs T call as env).fl fun p => if p.1.length = cl.fl.length then .ex c (D.fzs p.1) p.2 else .no := by
  rw [evS_rai, if_pos h1, hc]
  congr 1
  funext p
  simp only [decide_eq_true_eq]
theorem asg_fld {c : Nat} {vs : List D} {f : Str} {x : D} {cl : ClsI} {j : Nat} (hc : T.cls[c]? = some cl) (hj : idxF f cl.fl = some j) : asgD T (.obj true c vs) f x = if j = vs.length then some (.obj true c (vs ++ [x])) else none := by
  unfold asgD
  simp only [hc, hj]
end
@[simp] theorem noX_int {i : Int} : (D.int i).noX = true := rfl
@[simp] theorem noX_bl {i : Bool} : (D.bl i).noX = true := rfl
@[simp] theorem noX_non : D.non.noX = true := rfl
@[simp] theorem noX_str {s : List Nat} : (D.str s).noX = true := rfl
@[simp] theorem noX_tup {xs : List D} : (D.tup xs).noX = D.allNoX xs := rfl
@[simp] theorem noX_lst {o : Bool} {xs : List D} : (D.lst o xs).noX = D.allNoX xs := rfl
@[simp] theorem noX_obj {o : Bool} {c : Nat} {xs : List D} : (D.obj o c xs).noX = D.allNoX xs := rfl
@[simp] theorem allNoX_nil : D.allNoX [] = true := rfl
@[simp] theorem allNoX_cons {d : D} {ds : List D} : D.allNoX (d :: ds) = (d.noX && D.allNoX ds) := rfl
@[simp] theorem envNoX_nil : envNoX [] = true := rfl
@[simp] theorem envNoX_some {d : D} {r : VE} : envNoX (some d :: r) = (d.noX && envNoX r) := rfl
@[simp] theorem envNoX_none {r : VE} : envNoX (none :: r) = envNoX r := rfl
@[simp] theorem allNoX_ln {n : Nat} {f : Nat → D} : D.allNoX (ln n f) = ballN n fun i => (f i).noX := by
  induction n generalizing f with
  | zero => rfl
  | succ n ih =>
    rw [ln_cons]
    show ((f 0).noX && _) = _
    rw [ih]
    simp only [ballN, List.range_succ_eq_map, List.all_cons, List.all_map]
    rfl
@[simp] theorem nat_lt0 {n : Nat} : ((n : Int) < 0) = False := by simp
@[simp] theorem nat_ge0 {n : Nat} : (0 ≤ (n : Int)) = True := by simp
@[simp] theorem ixD_ln {n : Nat} {f : Nat → D} {i : Int} (h0 : 0 ≤ i) (h : i < n) : ixD (ln n f) i = some (f i.toNat) := by
  obtain ⟨k, rfl⟩ := Int.eq_ofNat_of_zero_le h0
  rw [ixD_nat, ln_get (by omega)]; simp
@[simp] theorem smallI_ok {i : Int} (h : -1000000 ≤ i) (h2 : i ≤ 1000000) : smallI i = true := smallI_of h h2
@[simp] theorem rangeD_one : rangeD 0 1 = [.int 0] := rfl
@[simp] theorem rangeD_s {n : Nat} : rangeD 0 ((n : Int) + 1) = ln (n + 1) fun k => .int k := by
  have := rangeD_nat (n + 1)
  simpa using this
@[simp] theorem rangeD_ij {i j : Nat} : rangeD (i : Int) (j : Int) = ln (j - i) fun k => .int ((i + k : Nat) : Int) := by
  rw [rangeD_ln]
  have : ((j : Int) - i).toNat = j - i := by omega
  rw [this]
  exact ln_congr fun k _ => by simp
@[simp] theorem asgDs_nil {T : Tab} {d : D} : asgDs T d [] [] = some d := rfl
@[simp] theorem asgDs_cons {T : Tab} {d x : D} {f : Str} {fs : List Str} {xs : List D} : asgDs T d (f :: fs) (x :: xs) = (asgD T d f x).bind fun d' => asgDs T d' fs xs := rfl
@[simp] theorem blt_rng1 {b : Int} (h : -1000000 ≤ b) (h2 : b ≤ 1000000) : bltD .range [.int b] = some (.rng 0 b) := by
  show (if smallI b then _ else _) = _
  rw [smallI_of h h2]; rfl
@[simp] theorem blt_rng2 {a b : Int} (g : -1000000 ≤ a) (g2 : a ≤ 1000000) (h : -1000000 ≤ b) (h2 : b ≤ 1000000) : bltD .range [.int a, .int b] = some (.rng a b) := by
  show (if smallI a && smallI b then _ else _) = _
  rw [smallI_of g g2, smallI_of h h2]; rfl
@[simp] theorem blt_lrng {a b : Int} (g : -1000000 ≤ a) (g2 : a ≤ 1000000) (h : -1000000 ≤ b) (h2 : b ≤ 1000000) : bltD .list [.rng a b] = some (.lst true (rangeD a b)) := by
  show (if smallI a && (smallI b && decide ((b - a).toNat ≤ 16000000)) then _ else _) = _
  rw [smallI_of g g2, smallI_of h h2, decide_eq_true (by omega)]; rfl
@[simp] theorem blt_abs {a : Int} : bltD .abs [.int a] = some (.int (if a < 0 then -a else a)) := rfl
@[simp] theorem binD_rep {x : D} {k : Int} (h : 1 ≤ k) (h2 : k ≤ 1000) : binD .mul (.tup [x]) (.int k) = some (.tup (ln k.toNat fun _ => x)) := by
  show (if decide (1 ≤ k) && decide (k ≤ 1000) && decide (([x] : List D).length ≤ 1000) && !([x] : List D).isEmpty then _ else _) = _
  rw [decide_eq_true h, decide_eq_true h2]
  show (if (true && true && decide (([x] : List D).length ≤ 1000) && true) = true then _ else _) = _
  rw [if_pos (by simp)]
  congr 2
  generalize k.toNat = m
  induction m with
  | zero => rfl
  | succ m ih => rw [List.replicate_succ, List.flatten_cons, ih, ln_cons]; rfl
@[simp] theorem ixD_1 {a b : D} {xs : List D} : ixD (a :: b :: xs) 1 = some b := by
  show ixD _ ((1 : Nat) : Int) = _
  rw [ixD_nat]; rfl
@[simp] theorem ixD_2 {a b c : D} {xs : List D} : ixD (a :: b :: c :: xs) 2 = some c := by
  show ixD _ ((2 : Nat) : Int) = _
  rw [ixD_nat]; rfl
@[simp] theorem ixD_3 {a b c d : D} {xs : List D} : ixD (a :: b :: c :: d :: xs) 3 = some d := by
  show ixD _ ((3 : Nat) : Int) = _
  rw [ixD_nat]; rfl
@[simp] theorem ixD_4 {a b c d e : D} {xs : List D} : ixD (a :: b :: c :: d :: e :: xs) 4 = some e := by
  show ixD _ ((4 : Nat) : Int) = _
  rw [ixD_nat]; rfl
@[simp] theorem ixD_app {n : Nat} {f : Nat → D} {x : D} : ixD (ln n f ++ [x]) (n : Int) = some x := by
  rw [ixD_nat, List.getElem?_append_right (by simp)]; simp
@[simp] theorem ixD_last {n : Nat} {f : Nat → D} : ixD (ln (n + 1) f) (-1) = some (f n) := by
  unfold ixD atI ixN
  rw [if_neg (by omega), if_pos (by simp; omega)]
  have : (-1 + ((ln (n + 1) f).length : Int)).toNat = n := by simp; omega
  simp only [Option.bind_some]
  rw [this, ln_get (by omega)]
@[simp] theorem toNat_add2 {a b : Nat} : ((a : Int) + b).toNat = a + b := by omega
@[simp] theorem toNat_add1 {k : Nat} : ((k : Int) + 1).toNat = k + 1 := by omega
/-! ### loops -/
/-- a turn of a for -/
def fstepB (T : Tab) (call : Nat → List D → CR) (b : B) (o : Option VE) : Fl := match o with
  | some e => evBl T call b e
  | none => .no
@[simp] theorem fstepB_some {T : Tab} {call : Nat → List D → CR} {b : B} {e : VE} : fstepB T call b (some e) = evBl T call b e := rfl
def fstep (body : VE → Fl) (o : Option VE) : Fl := match o with
  | some e => body e
  | none => .no
@[simp] theorem fstep_some {body : VE → Fl} {e : VE} : fstep body (some e) = body e := rfl
/-- it goes on, with P -/
def nxI (r : Fl) (P : VE → Prop) : Prop := match r with
  | .nx e => P e
  | .ct e => P e
  | _ => False
@[simp] theorem nxI_nx {e : VE} {P : VE → Prop} : nxI (.nx e) P = P e := rfl
@[simp] theorem nxI_ct {e : VE} {P : VE → Prop} : nxI (.ct e) P = P e := rfl
/-- it hands d back -/
def rtI (r : Fl) (d : D) : Prop := match r with
  | .rt d' _ => d' = d
  | _ => False
@[simp] theorem rtI_rt {e : VE} {d d' : D} : rtI (.rt d' e) d = (d' = d) := rfl
/-- it raises -/
def exI (r : Fl) (c : Nat) (xs : List D) : Prop := match r with
  | .ex c' xs' _ => c' = c ∧ xs' = xs
  | _ => False
@[simp] theorem exI_ex {e : VE} {c c' : Nat} {xs xs' : List D} : exI (.ex c' xs' e) c xs = (c' = c ∧ xs' = xs) := rfl
def fndI (r : Fl) (o : Option D) (J : VE → Prop) : Prop := match o with
  | none => nxI r J
  | some d => rtI r d
@[simp] theorem fndI_none {r : Fl} {J : VE → Prop} : fndI r none J = nxI r J := rfl
@[simp] theorem fndI_some {r : Fl} {d : D} {J : VE → Prop} : fndI r (some d) J = rtI r d := rfl
/-- a turn of a comprehension -/
def cstep (ts : List Nat) (tt : VE → Rr (Bool × VE)) (te : VE → Rr (D × VE)) (o : Option VE) : Rr (Option D × VE) := match o with
  | none => .no
  | some e1 => (tt e1).bind fun p => if p.1 then (te p.2).bind fun q => .ok (some q.1, wipeV q.2 ts) else .ok (none, wipeV p.2 ts)
@[simp] theorem cstep_some {ts : List Nat} {tt : VE → Rr (Bool × VE)} {te : VE → Rr (D × VE)} {e1 : VE} : cstep ts tt te (some e1) = (tt e1).bind fun p => if p.1 then (te p.2).bind fun q => .ok (some q.1, wipeV q.2 ts) else .ok (none, wipeV p.2 ts) := rfl
def cstepB (T : Tab) (call : Nat → List D → CR) (ts : List Nat) (e : E) (ifs : Es) (o : Option VE) : Rr (Option D × VE) := cstep ts (fun v => evTs T call ifs v) (fun v => evX T call false e v) o
def cend (T : Tab) (call : Nat → List D → CR) (ts : List Nat) (e : E) (r : Rr (Bool × VE)) : Rr (Option D × VE) := r.bind fun p => if p.1 then (evX T call false e p.2).bind fun q => .ok (some q.1, wipeV q.2 ts) else .ok (none, wipeV p.2 ts)
@[simp] theorem cend_ok {T : Tab} {call : Nat → List D → CR} {ts : List Nat} {e : E} {b : Bool} {v : VE} : cend T call ts e (.ok (b, v)) = if b then (evX T call false e v).bind fun q => .ok (some q.1, wipeV q.2 ts) else .ok (none, wipeV v ts) := rfl
@[simp] theorem cstepB_some {T : Tab} {call : Nat → List D → CR} {ts : List Nat} {e : E} {ifs : Es} {e1 : VE} : cstepB T call ts e ifs (some e1) = cend T call ts e (evTs T call ifs e1) := rfl
section
variable {ts : List Nat} {tu : Bool} {body : VE → Fl} {n : Nat} {x : Nat → D} {env : VE} {r : Fl}
/-- every turn goes on -/
theorem forL_run (h : forL ts tu body (ln n x) env = r) (I : Nat → VE → Prop) (h0 : I 0 env) (hs : ∀ k e, k < n → I k e → nxI (fstep body (setT e ts tu (x k))) (I (k + 1))) : ∃ e', r = .nx e' ∧ I n e' := by
  subst h
  induction n generalizing x I env with
  | zero => exact ⟨env, rfl, h0⟩
  | succ n ih =>
    have h1 := hs 0 env (by omega) h0
    rw [ln_cons, forL]
    cases hT : setT env ts tu (x 0) with
    | none => rw [hT] at h1; exact h1.elim
    | some e1 =>
      rw [hT] at h1
      simp only
      simp only [fstep_some] at h1
      cases hb : body e1 with
      | nx e2 => rw [hb] at h1; exact ih (x := fun i => x (i + 1)) (fun k => I (k + 1)) h1 fun k e hk hI => hs (k + 1) e (by omega) hI
      | ct e2 => rw [hb] at h1; exact ih (x := fun i => x (i + 1)) (fun k => I (k + 1)) h1 fun k e hk hI => hs (k + 1) e (by omega) hI
      | rt d e => rw [hb] at h1; exact h1.elim
      | bk e => rw [hb] at h1; exact h1.elim
      | ex c xs e => rw [hb] at h1; exact h1.elim
      | no => rw [hb] at h1; exact h1.elim
def isStop : Fl → Prop
  | .rt _ _ => True
  | .ex _ _ _ => True
  | _ => False
theorem stop_rt {r : Fl} {d : D} (h : rtI r d) : isStop r := by cases r <;> first | trivial | exact h.elim
theorem stop_ex {r : Fl} {c : Nat} {xs : List D} (h : exI r c xs) : isStop r := by cases r <;> first | trivial | exact h.elim
/-- turn j stops -/
theorem forL_stop (h : forL ts tu body (ln n x) env = r) (I : Nat → VE → Prop) (P : Fl → Prop) (h0 : I 0 env) (j : Nat) (hj : j < n) (hs : ∀ k e, k < j → I k e → nxI (fstep body (setT e ts tu (x k))) (I (k + 1)))
    (hP : ∀ r, P r → isStop r) (hst : ∀ e, I j e → P (fstep body (setT e ts tu (x j)))) : P r := by
  subst h
  induction n generalizing x I env j with
  | zero => omega
  | succ n ih =>
    rw [ln_cons, forL]
    cases j with
    | zero =>
      have h1 := hst env h0
      have h2 := hP _ h1
      cases hT : setT env ts tu (x 0) with
      | none => rw [hT] at h2; exact h2.elim
      | some e1 =>
        rw [hT] at h1 h2
        simp only [fstep_some] at h1 h2
        simp only
        have g1 : P (body e1) := h1
        have g2 : isStop (body e1) := h2
        clear h1 h2
        cases hb : body e1 <;> rw [hb] at g1 g2 <;> first | exact g1 | exact g2.elim
    | succ j =>
      have h1 := hs 0 env (by omega) h0
      cases hT : setT env ts tu (x 0) with
      | none => rw [hT] at h1; exact h1.elim
      | some e1 =>
        rw [hT] at h1
        simp only
        simp only [fstep_some] at h1
        cases hb : body e1 with
        | nx e2 => rw [hb] at h1; exact ih (x := fun i => x (i + 1)) (fun k => I (k + 1)) h1 j (by omega) (fun k e hk hI => hs (k + 1) e (by omega) hI) hst
        | ct e2 => rw [hb] at h1; exact ih (x := fun i => x (i + 1)) (fun k => I (k + 1)) h1 j (by omega) (fun k e hk hI => hs (k + 1) e (by omega) hI) hst
        | rt d e => rw [hb] at h1; exact h1.elim
        | bk e => rw [hb] at h1; exact h1.elim
        | ex c xs e => rw [hb] at h1; exact h1.elim
        | no => rw [hb] at h1; exact h1.elim
/-- a search: the first turn that hands something back -/
theorem forL_find (h : forL ts tu body (ln n x) env = r) (J : VE → Prop) (p : Nat → Option D) (h0 : J env) (hs : ∀ k e, k < n → J e → fndI (fstep body (setT e ts tu (x k))) (p k) J) : fndI r ((List.range n).findSome? p) J := by
  subst h
  induction n generalizing x p env with
  | zero => exact h0
  | succ n ih =>
    have h1 := hs 0 env (by omega) h0
    rw [ln_cons, forL, List.range_succ_eq_map, List.findSome?_cons]
    cases hT : setT env ts tu (x 0) with
    | none =>
      rw [hT] at h1
      cases hp : p 0 with
      | none => rw [hp] at h1; exact h1.elim
      | some d => rw [hp] at h1; exact h1.elim
    | some e1 =>
      rw [hT] at h1
      simp only
      simp only [fstep_some] at h1
      cases hp : p 0 with
      | some d =>
        rw [hp] at h1
        simp only
        revert h1
        cases body e1 <;> intro h1 <;> first | exact h1 | exact h1.elim
      | none =>
        rw [hp] at h1
        simp only [List.findSome?_map]
        cases hb : body e1 with
        | nx e2 => rw [hb] at h1; exact ih (x := fun i => x (i + 1)) (fun k => p (k + 1)) h1 fun k e hk hJ => hs (k + 1) e (by omega) hJ
        | ct e2 => rw [hb] at h1; exact ih (x := fun i => x (i + 1)) (fun k => p (k + 1)) h1 fun k e hk hJ => hs (k + 1) e (by omega) hJ
        | rt d e => rw [hb] at h1; exact h1.elim
        | bk e => rw [hb] at h1; exact h1.elim
        | ex c xs e => rw [hb] at h1; exact h1.elim
        | no => rw [hb] at h1; exact h1.elim
variable {tt : VE → Rr (Bool × VE)} {te : VE → Rr (D × VE)} {acc : List D}
theorem cstep_inv {o : Option VE} {q : Option D} {e : VE} (h : cstep ts tt te o = .ok (q, e)) : ∃ e1, o = some e1 ∧ ((∃ e2 d e3, tt e1 = .ok (true, e2) ∧ te e2 = .ok (d, e3) ∧ wipeV e3 ts = e ∧ q = some d) ∨ ∃ e2, tt e1 = .ok (false, e2) ∧ wipeV e2 ts = e ∧ q = none) := by
  cases o with
  | none => cases h
  | some e1 =>
    refine ⟨e1, rfl, ?_⟩
    simp only [cstep_some] at h
    cases ht : tt e1 with
    | ok p =>
      obtain ⟨b, e2⟩ := p
      rw [ht] at h
      simp only [bind_ok] at h
      cases b with
      | true =>
        simp only [if_true] at h
        cases he : te e2 with
        | ok p2 =>
          obtain ⟨d, e3⟩ := p2
          rw [he] at h
          cases h
          exact .inl ⟨e2, d, e3, rfl, he, rfl, rfl⟩
        | ex c xs v => rw [he] at h; cases h
        | no => rw [he] at h; cases h
      | false => cases h; exact .inr ⟨e2, rfl, rfl, rfl⟩
    | ex c xs v => rw [ht] at h; cases h
    | no => rw [ht] at h; cases h
/-- a comprehension: each item's outcome -/
theorem compL_opt (g : Nat → Option D) (hs : ∀ k, k < n → cstep ts tt te (setT env ts tu (x k)) = .ok (g k, env)) (hl : acc.length + n ≤ 16000000) : compL ts tu tt te (ln n x) acc env = .ok (acc ++ (List.range n).filterMap g, env) := by
  induction n generalizing x g acc with
  | zero => rw [ln_zero, compL]; simp
  | succ n ih =>
    obtain ⟨e1, h1, h2⟩ := cstep_inv (hs 0 (by omega))
    rw [ln_cons, compL, h1, List.range_succ_eq_map, List.filterMap_cons, List.filterMap_map]
    simp only
    rcases h2 with ⟨e2, d, e3, a1, a2, a3, a4⟩ | ⟨e2, a1, a3, a4⟩
    · rw [a1]
      simp only
      rw [a2]
      simp only
      rw [if_pos (by simp; omega), a3, ih (g := fun i => g (i + 1)) (fun k hk => hs (k + 1) (by omega)) (by simp; omega), a4, List.append_assoc]
      rfl
    · rw [a1]
      simp only
      rw [a3, ih (g := fun i => g (i + 1)) (fun k hk => hs (k + 1) (by omega)) (by omega), a4]
      rfl
/-- .. without a test -/
theorem compL_run (g : Nat → D) (hs : ∀ k, k < n → cstep ts tt te (setT env ts tu (x k)) = .ok (some (g k), env)) (hl : acc.length + n ≤ 16000000) : compL ts tu tt te (ln n x) acc env = .ok (acc ++ ln n g, env) := by
  rw [compL_opt (fun k => some (g k)) hs hl]
  congr 3
  unfold ln
  exact List.filterMap_eq_map' ▸ rfl
/-- .. with one -/
theorem compL_if (g : Nat → D) (b : Nat → Bool) (hs : ∀ k, k < n → cstep ts tt te (setT env ts tu (x k)) = .ok (if b k then some (g k) else none, env)) (hl : acc.length + n ≤ 16000000) : compL ts tu tt te (ln n x) acc env = .ok (acc ++ ((List.range n).filter b).map g, env) := by
  rw [compL_opt (fun k => if b k then some (g k) else none) hs hl]
  congr 3
  generalize List.range n = l
  induction l with
  | nil => rfl
  | cons a l ih =>
    rw [List.filterMap_cons, List.filter_cons]
    cases b a <;> simp [ih]
/-- a test of a while -/
def wstep (r : Rr (Bool × VE)) (stop : VE → Prop) (go : VE → Prop) : Prop := match r with
  | .ok (true, e) => go e
  | .ok (false, e) => stop e
  | _ => False
@[simp] theorem wstep_ok {b : Bool} {e : VE} {P Q : VE → Prop} : wstep (.ok (b, e)) P Q = (if b then Q e else P e) := by cases b <;> rfl
/-- while: m falls -/
theorem whL_run {ct : VE → Rr (Bool × VE)} (I : Nat → VE → Prop) (Q : VE → Prop) : ∀ (m fuel : Nat) (env : VE) (r : Fl), whL ct body fuel env = r → m < fuel → I m env → (∀ m e, I m e → wstep (ct e) Q fun e1 => nxI (body e1) fun e2 => ∃ j, j < m ∧ I j e2) → ∃ e', r = .nx e' ∧ Q e'
  | m, 0, env, r, _, h, _, _ => by omega
  | m, fuel + 1, env, r, hr, h, hI, hs => by
    subst hr
    have h1 := hs m env hI
    rw [whL]
    cases hc : ct env with
    | ok p =>
      obtain ⟨b, e1⟩ := p
      rw [hc, wstep_ok] at h1
      cases b with
      | true =>
        simp only [if_true] at h1
        simp only
        cases hb : body e1 with
        | nx e2 => rw [hb] at h1; obtain ⟨j, hj, h2⟩ := h1; exact whL_run I Q j fuel e2 _ rfl (by omega) h2 hs
        | ct e2 => rw [hb] at h1; obtain ⟨j, hj, h2⟩ := h1; exact whL_run I Q j fuel e2 _ rfl (by omega) h2 hs
        | rt d e => rw [hb] at h1; exact h1.elim
        | bk e => rw [hb] at h1; exact h1.elim
        | ex c xs e => rw [hb] at h1; exact h1.elim
        | no => rw [hb] at h1; exact h1.elim
      | false => exact ⟨e1, rfl, by simpa using h1⟩
    | ex c xs e => rw [hc] at h1; exact h1.elim
    | no => rw [hc] at h1; exact h1.elim
end
section
variable {T : Tab} {call : Nat → List D → CR} {ts : List Nat} {tu : Bool} {n : Nat} {x : Nat → D} {env : VE} {r : Fl} {b : B}
theorem forC_run (h : forC T call ts tu b (ln n x) env = r) (I : Nat → VE → Prop) (h0 : I 0 env) (hs : ∀ k e, k < n → I k e → nxI (fstepB T call b (setT e ts tu (x k))) (I (k + 1))) : ∃ e', r = .nx e' ∧ I n e' := forL_run h I h0 hs
theorem forC_stop (h : forC T call ts tu b (ln n x) env = r) (I : Nat → VE → Prop) (P : Fl → Prop) (h0 : I 0 env) (j : Nat) (hj : j < n) (hs : ∀ k e, k < j → I k e → nxI (fstepB T call b (setT e ts tu (x k))) (I (k + 1)))
    (hP : ∀ r, P r → isStop r) (hst : ∀ e, I j e → P (fstepB T call b (setT e ts tu (x j)))) : P r := forL_stop h I P h0 j hj hs hP hst
theorem forL_nct {ts : List Nat} {tu : Bool} {body : VE → Fl} : ∀ (xs : List D) (env e : VE), forL ts tu body xs env ≠ .ct e
  | [], env, e => by rw [forL]; simp
  | x :: xs, env, e => by
    rw [forL]
    cases setT env ts tu x with
    | none => simp
    | some e1 =>
      simp only
      cases body e1 with
      | nx e2 => exact forL_nct xs e2 e
      | ct e2 => exact forL_nct xs e2 e
      | _ => simp
theorem forC_find (h : forC T call ts tu b (ln n x) env = r) (J : VE → Prop) (p : Nat → Option D) (h0 : J env) (hs : ∀ k e, k < n → J e → fndI (fstepB T call b (setT e ts tu (x k))) (p k) J) : fndI r ((List.range n).findSome? p) J := forL_find h J p h0 hs
variable {e : E} {ifs : Es} {acc : List D}
theorem compC_run (g : Nat → D) (hs : ∀ k, k < n → cstepB T call ts e ifs (setT env ts tu (x k)) = .ok (some (g k), env)) (hl : acc.length + n ≤ 16000000) : compC T call ts tu e ifs (ln n x) acc env = .ok (acc ++ ln n g, env) := compL_run g hs hl
theorem compC_if (g : Nat → D) (p : Nat → Bool) (hs : ∀ k, k < n → cstepB T call ts e ifs (setT env ts tu (x k)) = .ok (if p k then some (g k) else none, env)) (hl : acc.length + n ≤ 16000000) : compC T call ts tu e ifs (ln n x) acc env = .ok (acc ++ ((List.range n).filter p).map g, env) := compL_if g p hs hl
theorem whB_run {c : E} (h : whB T call c b env = r) (I : Nat → VE → Prop) (Q : VE → Prop) (m : Nat) (hm : m < 100000) (h0 : I m env) (hs : ∀ m e, I m e → wstep (evT T call c e) Q fun e1 => nxI (evBl T call b e1) fun e2 => ∃ j, j < m ∧ I j e2) : ∃ e', r = .nx e' ∧ Q e' := whL_run I Q m whF env r h hm h0 hs
end
end VS
namespace VS
theorem findSome_map {α β γ : Type} {f : α → Option β} {g : β → γ} : ∀ l : List α, (l.findSome? f).map g = l.findSome? fun a => (f a).map g
  | [] => rfl
  | a :: l => by
    rw [List.findSome?_cons, List.findSome?_cons]
    cases f a with
    | some b => rfl
    | none => exact findSome_map l
theorem fnd_cases {r : Fl} {o : Option D} {J : VE → Prop} (h : fndI r o J) : (o = none ∧ ∃ e, (r = .nx e ∨ r = .ct e) ∧ J e) ∨ ∃ d e, o = some d ∧ r = .rt d e := by
  cases o with
  | none => cases r <;> first | exact h.elim | exact .inl ⟨rfl, _, .inl rfl, h⟩ | exact .inl ⟨rfl, _, .inr rfl, h⟩
  | some d => cases r <;> first | exact h.elim | (have h2 := h; unfold fndI rtI at h2; subst h2; exact .inr ⟨_, _, rfl, rfl⟩)
end VS
set_option Elab.async false
set_option linter.all false
set_option maxRecDepth 100000
set_option maxHeartbeats 2000000
/-! VPd: calls by rewriting. -/
namespace VS
open PySem PySem.Spec PyProof.Rows L2
def toL : Es → List E
  | .nil => []
  | .cons e es => e :: toL es
@[simp] theorem toL_nil : toL .nil = [] := rfl
@[simp] theorem toL_cons {e : E} {es : Es} : toL (.cons e es) = e :: toL es := rfl
@[simp] theorem lenEs_nil : lenEs .nil = 0 := rfl
@[simp] theorem lenEs_cons {e : E} {es : Es} : lenEs (.cons e es) = lenEs es + 1 := rfl
section
variable {T : Tab} {call : Nat → List D → CR} {env : VE} {m : Bool}
/-- expressions one behind another, then k -/
abbrev RL (_ : List D → VE → Rr (D × VE)) : Type := Rr (D × VE)
def evL (T : Tab) (call : Nat → List D → CR) : List E → VE → (k : List D → VE → Rr (D × VE)) → RL k
  | [], env, k => k [] env
  | e :: es, env, k => (evX T call false e env).bind fun p => evL T call es p.2 fun ds v => k (p.1 :: ds) v
@[simp] theorem evL_nil {k : List D → VE → Rr (D × VE)} : evL T call [] env k = k [] env := rfl
@[simp] theorem evL_cons {e : E} {es : List E} {k : List D → VE → Rr (D × VE)} : evL T call (e :: es) env k = (evX T call false e env).bind fun p => evL T call es p.2 fun ds v => k (p.1 :: ds) v := rfl
theorem evEs_L : ∀ (es : Es) (env : VE) (f : List D × VE → Rr (D × VE)), (evEs T call es env).bind f = evL T call (toL es) env fun ds v => f (ds, v)
  | .nil, env, f => by rw [evEs_nil]; rfl
  | .cons e es, env, f => by
    rw [evEs_cons, toL, evL]
    cases evX T call false e env with
    | ok p =>
      simp only [bind_ok]
      rw [← evEs_L es p.2 fun q => f (p.1 :: q.1, q.2)]
      cases evEs T call es p.2 <;> rfl
    | ex c xs v => rfl
    | no => rfl
def callS (T : Tab) (call : Nat → List D → CR) (f n : Nat) (ks : List Str) (ds ws : List D) (u : VE) : Rr (D × VE) := match T.fns[f]? with
  | none => .no
  | some fn => match findS n ks fn.shapes with
        | some s => match fillS s.src (D.fzs ds) (D.fzs ws) with
          | some ds => callR T call f ds u
          | none => .no
        | none => .no
theorem evX_callL {f : Nat} {as kv : Es} {ks : List Str} {fn : FnI} (hf : T.fns[f]? = some fn) (hm : fn.mu = false) : evX T call m (.call f as ks kv) env = fin m (evL T call (toL as) env fun ds v => evL T call (toL kv) v fun ws u => callS T call f (lenEs as) ks ds ws u) := by
  rw [evX_call hf hm, evEs_L]
  congr 2
  funext ds v
  rw [evEs_L]
  congr 1
  funext ws u
  unfold callS
  rw [hf]
  try rfl
theorem callS_eq {f n : Nat} {ks : List Str} {ds ws zs : List D} {u : VE} {fn : FnI} {s : Shp} (hf : T.fns[f]? = some fn) (hm : fn.mu = false) (hs : findS n ks fn.shapes = some s) (hz : fillS s.src (D.fzs ds) (D.fzs ws) = some zs) (ha : D.allFz zs = true) (hl : zs.length = fn.np) :
    callS T call f n ks ds ws u = toR (call f zs) u := by
  unfold callS
  simp only [hf, hs, hz]
  exact callR_fr hf hm ha hl
def muS (T : Tab) (call : Nat → List D → CR) (f : Nat) (ds : List D) (i : Nat) (v : VE) : Rr (D × VE) := match T.fns[f]? with
  | none => .no
  | some fn => if hasTriv fn (ds.length + 1) && decide (ds.length + 1 = fn.np) then mutC (ownL (getV v i)) fun xs => toM (call f (.lst true xs :: D.fzs ds)) v i else .no
theorem evX_callML {f i : Nat} {es : Es} {fn : FnI} (hf : T.fns[f]? = some fn) (hm : fn.mu = true) : evX T call m (.call f (.cons (.var i) es) [] .nil) env = fin m (if (getV env i).isNone then .no else evL T call (toL es) env fun ds v => muS T call f ds i v) := by
  rw [evX_callM hf hm, evEs_L]
  congr 3
  funext ds v
  unfold muS
  rw [hf]
  simp only
  split
  · cases getV v i with
    | none => rfl
    | some d =>
      cases d with
      | lst o xs =>
        cases o with
        | true =>
          show (match call f (.lst true xs :: D.fzs ds) with | .ok d (some d') => Rr.ok (d, setV v i d') | _ => .no) = toM (call f (.lst true xs :: D.fzs ds)) v i
          cases call f (.lst true xs :: D.fzs ds) with
          | ok d o => cases o <;> rfl
          | ex c xs => rfl
          | no => rfl
        | false => rfl
      | _ => rfl
  · rfl
theorem muS_eq {f i : Nat} {ds : List D} {v : VE} {fn : FnI} (hf : T.fns[f]? = some fn) (ht : hasTriv fn (ds.length + 1) = true) (hn : ds.length + 1 = fn.np) : muS T call f ds i v = mutC (ownL (getV v i)) fun xs => toM (call f (.lst true xs :: D.fzs ds)) v i := by
  unfold muS
  simp only [hf]
  rw [if_pos (by rw [ht, decide_eq_true hn]; rfl)]
def newS (T : Tab) (call : Nat → List D → CR) (c n : Nat) (ks : List Str) (ds ws : List D) (u : VE) : Rr (D × VE) := match T.cls[c]? with
  | none => .no
  | some cl => match cl.init with
      | none => .no
      | some f => match T.fns[f]? with
        | none => .no
        | some fn => match findS n ks fn.shapes with
          | some sh => if fn.mu && (selfS sh.src && !cl.ex) then
              (match fillS sh.src (.obj true c [] :: D.fzs ds) (D.fzs ws) with
              | some ds => if ds.length ≠ fn.np then .no else toN (call f ds) u
              | none => .no)
            else .no
          | none => .no
theorem evX_newL {c : Nat} {as kv : Es} {ks : List Str} {cl : ClsI} {f : Nat} {fn : FnI} (hc : T.cls[c]? = some cl) (hi : cl.init = some f) (hf : T.fns[f]? = some fn) : evX T call m (.new c as ks kv) env = fin m (evL T call (toL as) env fun ds v => evL T call (toL kv) v fun ws u => newS T call c (lenEs as + 1) ks ds ws u) := by
  rw [evX_new hc hi hf, evEs_L]
  congr 2
  funext ds v
  rw [evEs_L]
  congr 1
  funext ws u
  unfold newS
  simp only [hc, hi, hf]
  cases findS (lenEs as + 1) ks fn.shapes with
  | none => rfl
  | some sh =>
    simp only
    split
    · cases fillS sh.src (.obj true c [] :: D.fzs ds) (D.fzs ws) with
      | none => rfl
      | some zs =>
        simp only
        split
        · rfl
        · cases call f zs with
          | ok d o =>
            cases d <;> cases o <;> rfl
          | ex c xs => rfl
          | no => rfl
    · rfl
theorem newS_eq {c n : Nat} {ks : List Str} {ds ws zs : List D} {u : VE} {cl : ClsI} {f : Nat} {fn : FnI} {s : Shp} (hc : T.cls[c]? = some cl) (hi : cl.init = some f) (hf : T.fns[f]? = some fn) (hm : fn.mu = true) (hx : cl.ex = false) (hs : findS n ks fn.shapes = some s) (hse : selfS s.src = true)
    (hz : fillS s.src (.obj true c [] :: D.fzs ds) (D.fzs ws) = some zs) (hl : zs.length = fn.np) : newS T call c n ks ds ws u = toN (call f zs) u := by
  unfold newS
  simp only [hc, hi, hf, hs, hm, hx, hse, hz, hl]
  simp
end
end VS
set_option Elab.async false
set_option linter.all false
set_option maxRecDepth 100000
set_option maxHeartbeats 2000000
/-! VPe: == over trees. -/
namespace VS
open PySem PySem.Spec PyProof.Rows L2
mutual
def D.okq : D → Nat → Bool
  | .non, _ => true
  | .bl _, _ => true
  | .int _, _ => true
  | .str s, _ => PyData.canLay0 (.str ⟨s.toArray⟩)
  | .tup xs, n => (match n with
    | 0 => false
    | n + 1 => D.okqs xs n)
  | .lst _ xs, n => (match n with
    | 0 => false
    | n + 1 => D.okqs xs n)
  | _, _ => false
def D.okqs : List D → Nat → Bool
  | [], _ => true
  | d :: ds, n => D.okq d n && D.okqs ds n
end
def D.eqv (a b : D) : Bool := match a.py, b.py with
  | some p, some q => PyData.eqv p q
  | _, _ => false
def D.eqvs (a b : List D) : Bool := match D.pys a, D.pys b with
  | some p, some q => PyData.eqvAll p q
  | _, _ => false
mutual
theorem okq_py : ∀ (d : D) (n : Nat), d.okq n = true → ∃ p, d.py = some p ∧ p.canLay0 = true ∧ p.depth ≤ n
  | .non, _, _ => ⟨_, rfl, rfl, Nat.zero_le _⟩
  | .bl _, _, _ => ⟨_, rfl, rfl, Nat.zero_le _⟩
  | .int _, _, _ => ⟨_, rfl, rfl, Nat.zero_le _⟩
  | .str s, _, h => ⟨_, rfl, h, Nat.zero_le _⟩
  | .tup xs, n, h => by
    cases n with
    | zero => cases h
    | succ n =>
      obtain ⟨ps, h1, h2, h3⟩ := okqs_py xs n h
      refine ⟨.tuple ps, ?_, h2, ?_⟩
      · show (D.pys xs).map PyData.tuple = _
        rw [h1]; rfl
      · show PyData.depthAll ps + 1 ≤ n + 1
        omega
  | .lst _ xs, n, h => by
    cases n with
    | zero => cases h
    | succ n =>
      obtain ⟨ps, h1, h2, h3⟩ := okqs_py xs n h
      refine ⟨.list ps, ?_, h2, ?_⟩
      · show (D.pys xs).map PyData.list = _
        rw [h1]; rfl
      · show PyData.depthAll ps + 1 ≤ n + 1
        omega
  | .obj _ _ _, _, h => by cases h
  | .cls _, _, h => by cases h
  | .ty _, _, h => by cases h
  | .rng _ _, _, h => by cases h
  | .exv _ _, _, h => by cases h
theorem okqs_py : ∀ (ds : List D) (n : Nat), D.okqs ds n = true → ∃ ps, D.pys ds = some ps ∧ PyData.canLayAll0 ps = true ∧ PyData.depthAll ps ≤ n
  | [], _, _ => ⟨[], rfl, rfl, Nat.zero_le _⟩
  | d :: ds, n, h => by
    have h' : (D.okq d n && D.okqs ds n) = true := h
    rw [Bool.and_eq_true] at h'
    obtain ⟨p, a1, a2, a3⟩ := okq_py d n h'.1
    obtain ⟨ps, b1, b2, b3⟩ := okqs_py ds n h'.2
    refine ⟨p :: ps, ?_, ?_, ?_⟩
    · show (D.py d).bind (fun p => (D.pys ds).map (p :: ·)) = _
      rw [a1, b1]; rfl
    · show (PyData.canLay0 p && PyData.canLayAll0 ps) = true
      rw [a2, b2]; rfl
    · show max (PyData.depth p) (PyData.depthAll ps) ≤ n
      omega
end
theorem eqD_eqv {a b : D} (ha : a.okq 60 = true) (hb : b.okq 60 = true) : eqD a b = some (D.eqv a b) := by
  obtain ⟨p, h1, h2, h3⟩ := okq_py a 60 ha
  obtain ⟨q, g1, g2, g3⟩ := okq_py b 60 hb
  unfold eqD D.eqv
  rw [h1, g1]
  simp only
  rw [if_pos]
  unfold SeqAt.shaped
  rw [h2, g2, decide_eq_true (by omega), decide_eq_true (by omega)]; rfl
@[simp] theorem eqD_eqv1 {a b : D} (h : (a.okq 60 && b.okq 60) = true) : eqD a b = some (D.eqv a b) := by
  rw [Bool.and_eq_true] at h
  exact eqD_eqv h.1 h.2
@[simp] theorem okq_non {n : Nat} : D.non.okq n = true := rfl
@[simp] theorem okq_bl {n : Nat} {b : Bool} : (D.bl b).okq n = true := rfl
@[simp] theorem okq_int {n : Nat} {b : Int} : (D.int b).okq n = true := rfl
@[simp] theorem okq_str {n : Nat} {s : List Nat} : (D.str s).okq n = PyData.canLay0 (.str ⟨s.toArray⟩) := rfl
@[simp] theorem okq_tup {n : Nat} {xs : List D} : (D.tup xs).okq (n + 1) = D.okqs xs n := rfl
@[simp] theorem okq_lst {n : Nat} {o : Bool} {xs : List D} : (D.lst o xs).okq (n + 1) = D.okqs xs n := rfl
@[simp] theorem okqs_nil {n : Nat} : D.okqs [] n = true := rfl
@[simp] theorem okqs_cons {n : Nat} {d : D} {ds : List D} : D.okqs (d :: ds) n = (d.okq n && D.okqs ds n) := rfl
@[simp] theorem okqs_ln {n m : Nat} {f : Nat → D} : D.okqs (ln m f) n = ballN m fun i => (f i).okq n := by
  induction m generalizing f with
  | zero => rfl
  | succ m ih =>
    rw [ln_cons]
    show ((f 0).okq n && _) = _
    rw [ih]
    simp only [ballN, List.range_succ_eq_map, List.all_cons, List.all_map]
    rfl
@[simp] theorem okqs_ints {n : Nat} {l : List Int} : D.okqs (l.map D.int) n = true := by
  induction l with
  | nil => rfl
  | cons a l ih => show ((D.int a).okq n && _) = true; rw [ih]; rfl
@[simp] theorem eqv_int {a b : Int} : D.eqv (.int a) (.int b) = decide (a = b) := by
  show (a == b) = _
  exact Bool.beq_eq_decide_eq a b
@[simp] theorem eqv_nn : D.eqv .non .non = true := rfl
@[simp] theorem eqv_bl {a b : Bool} : D.eqv (.bl a) (.bl b) = (a == b) := rfl
@[simp] theorem eqv_nt {xs : List D} : D.eqv .non (.tup xs) = false := by
  show (match some PyData.none, (D.pys xs).map PyData.tuple with | some p, some q => PyData.eqv p q | _, _ => false) = false
  cases D.pys xs <;> rfl
@[simp] theorem eqv_tn {xs : List D} : D.eqv (.tup xs) .non = false := by
  show (match (D.pys xs).map PyData.tuple, some PyData.none with | some p, some q => PyData.eqv p q | _, _ => false) = false
  cases D.pys xs <;> rfl
@[simp] theorem eqv_is {a : Int} {s : List Nat} : D.eqv (.int a) (.str s) = false := rfl
@[simp] theorem eqv_si {a : Int} {s : List Nat} : D.eqv (.str s) (.int a) = false := rfl
@[simp] theorem eqv_ss {s : List Nat} : D.eqv (.str s) (.str s) = true := by
  show ((⟨s.toArray⟩ : Str) == ⟨s.toArray⟩) = true
  exact beq_self_eq_true _
@[simp] theorem eqv_tt {xs ys : List D} : D.eqv (.tup xs) (.tup ys) = D.eqvs xs ys := by
  show (match (D.pys xs).map PyData.tuple, (D.pys ys).map PyData.tuple with | some p, some q => PyData.eqv p q | _, _ => false) = _
  unfold D.eqvs
  cases D.pys xs <;> cases D.pys ys <;> rfl
@[simp] theorem eqv_ll {o p : Bool} {xs ys : List D} : D.eqv (.lst o xs) (.lst p ys) = D.eqvs xs ys := by
  show (match (D.pys xs).map PyData.list, (D.pys ys).map PyData.list with | some p, some q => PyData.eqv p q | _, _ => false) = _
  unfold D.eqvs
  cases D.pys xs <;> cases D.pys ys <;> rfl
@[simp] theorem eqvs_nil : D.eqvs [] [] = true := rfl
@[simp] theorem eqvs_cons {x y : D} {xs ys : List D} : D.eqvs (x :: xs) (y :: ys) = (D.eqv x y && D.eqvs xs ys) := by
  show (match (D.py x).bind (fun p => (D.pys xs).map (p :: ·)), (D.py y).bind (fun p => (D.pys ys).map (p :: ·)) with | some p, some q => PyData.eqvAll p q | _, _ => false) = _
  unfold D.eqv D.eqvs
  cases D.py x with
  | none => rfl
  | some p =>
    cases D.py y with
    | none => cases D.pys xs <;> rfl
    | some q =>
      cases D.pys xs with
      | none => simp
      | some ps =>
        cases D.pys ys with
        | none => simp
        | some qs => rfl
theorem eqvs_nc {y : D} {ys : List D} : D.eqvs [] (y :: ys) = false := by
  show (match some [], (D.py y).bind (fun p => (D.pys ys).map (p :: ·)) with | some p, some q => PyData.eqvAll p q | _, _ => false) = _
  cases D.py y with
  | none => rfl
  | some q => cases D.pys ys <;> rfl
theorem eqvs_cn {y : D} {ys : List D} : D.eqvs (y :: ys) [] = false := by
  show (match (D.py y).bind (fun p => (D.pys ys).map (p :: ·)), some [] with | some p, some q => PyData.eqvAll p q | _, _ => false) = _
  cases D.py y with
  | none => rfl
  | some q => cases D.pys ys <;> rfl
@[simp] theorem eqvs_nc' {y : D} {ys : List D} : D.eqvs [] (y :: ys) = false := eqvs_nc
@[simp] theorem eqvs_cn' {y : D} {ys : List D} : D.eqvs (y :: ys) [] = false := eqvs_cn
@[simp] theorem eqvs_ints : ∀ {l m : List Int}, D.eqvs (l.map D.int) (m.map D.int) = decide (l = m)
  | [], [] => rfl
  | [], _ :: _ => by rw [List.map_cons, List.map_nil, eqvs_nc]; simp
  | _ :: _, [] => by rw [List.map_cons, List.map_nil, eqvs_cn]; simp
  | a :: l, b :: m => by
    rw [List.map_cons, List.map_cons, eqvs_cons, eqvs_ints, eqv_int]
    by_cases h : a = b <;> simp [h]
theorem map_int_ln {n : Nat} {f : Nat → Int} : (ln n f).map D.int = ln n fun i => .int (f i) := by simp
@[simp] theorem eqvs_iln {n m : Nat} {f g : Nat → Int} : D.eqvs (ln n fun i => .int (f i)) (ln m fun i => .int (g i)) = decide (ln n f = ln m g) := by
  rw [← map_int_ln, ← map_int_ln, eqvs_ints]
/-! ### more operators, loops over written lists -/
@[simp] theorem rangeD_13 : rangeD 1 3 = [.int 1, .int 2] := rfl
theorem binD_mul2 {a b : Int} (h : -(2 ^ 64) < b ∧ b < 2 ^ 64) : binD .mul (.int a) (.int b) = some (.int (a * b)) := binD_mul (decide_eq_true (.inr h))
theorem binD_mul1 {a b : Int} (h : -(2 ^ 64) < a ∧ a < 2 ^ 64) : binD .mul (.int a) (.int b) = some (.int (a * b)) := binD_mul (decide_eq_true (.inl h))
theorem binD_fdiv {a b : Int} (h : 0 < b) (h2 : b < 1073741824) : binD .fdiv (.int a) (.int b) = some (.int (a / b)) := by
  show (if decide (0 < b) && decide (b < 1073741824) then _ else _) = _
  rw [if_pos (by rw [decide_eq_true h, decide_eq_true h2]; rfl)]
theorem pow_18 : binD .pow (.int 10) (.int 18) = some (.int 1000000000000000000) := rfl
theorem pow_6 : binD .pow (.int 10) (.int 6) = some (.int 1000000) := rfl
@[simp] theorem binD_addL {o p : Bool} {a b : List D} (ha : D.allFz a = true) (hb : D.allFz b = true) (h : a.length + b.length ≤ 16000000) : binD .add (.lst o a) (.lst p b) = some (.lst true (a ++ b)) := by
  show (if lenOk (a.length + b.length) && D.allFz a && D.allFz b then _ else _) = _
  rw [if_pos (by rw [ha, hb, show lenOk (a.length + b.length) = true from decide_eq_true h]; rfl)]
@[simp] theorem frzRoot_eq {e : E} {env : VE} : frzRoot e env = (rootE e).bind fun i => (getV env i).map fun d => setV env i d.fz := rfl
@[simp] theorem isEmpty_mapI {l : List Int} : (l.map D.int).isEmpty = l.isEmpty := by cases l <;> rfl
@[simp] theorem allFz_mapI {l : List Int} : D.allFz (l.map D.int) = true := by
  induction l with
  | nil => rfl
  | cons a l ih => show ((D.int a).isFz && _) = true; rw [ih]; rfl
@[simp] theorem fzs_mapI {l : List Int} : D.fzs (l.map D.int) = l.map D.int := by
  induction l with
  | nil => rfl
  | cons a l ih => show (D.int a).fz :: D.fzs _ = _; rw [ih]; rfl
/-- numbers, all of them -/
def isI (xs : List D) : Prop := ∃ l : List Int, xs = l.map D.int
theorem isI_nil : isI [] := ⟨[], rfl⟩
theorem isI_snoc {xs : List D} {i : Int} (h : isI xs) : isI (xs ++ [.int i]) := by
  obtain ⟨l, rfl⟩ := h
  exact ⟨l ++ [i], by simp⟩
theorem isI_rev {xs : List D} (h : isI xs) : isI xs.reverse := by
  obtain ⟨l, rfl⟩ := h
  exact ⟨l.reverse, by simp⟩
theorem isI_fz {xs : List D} (h : isI xs) : D.allFz xs = true := by
  obtain ⟨l, rfl⟩ := h
  simp
theorem isI_cases {xs : List D} (h : isI xs) : xs = [] ∨ ∃ ys i, xs = ys ++ [.int i] ∧ isI ys := by
  obtain ⟨l, rfl⟩ := h
  rcases List.eq_nil_or_concat l with rfl | ⟨l', i, rfl⟩
  · exact .inl rfl
  · exact .inr ⟨l'.map D.int, i, by simp, l', rfl⟩
section
variable {T : Tab} {call : Nat → List D → CR} {ts : List Nat} {tu : Bool} {b : B} {env : VE}
def nextF (T : Tab) (call : Nat → List D → CR) (ts : List Nat) (tu : Bool) (b : B) (xs : List D) (r : Fl) : Fl := match r with
  | .nx e => forC T call ts tu b xs e
  | .ct e => forC T call ts tu b xs e
  | .bk e => .nx e
  | r => r
@[simp] theorem nextF_nx {xs : List D} {e : VE} : nextF T call ts tu b xs (.nx e) = forC T call ts tu b xs e := rfl
@[simp] theorem nextF_ct {xs : List D} {e : VE} : nextF T call ts tu b xs (.ct e) = forC T call ts tu b xs e := rfl
@[simp] theorem nextF_rt {xs : List D} {d : D} {e : VE} : nextF T call ts tu b xs (.rt d e) = .rt d e := rfl
@[simp] theorem nextF_ex {xs ys : List D} {c : Nat} {e : VE} : nextF T call ts tu b xs (.ex c ys e) = .ex c ys e := rfl
@[simp] theorem forC_nil : forC T call ts tu b [] env = .nx env := by unfold forC; rw [forL]
@[simp] theorem forC_cons {x : D} {xs : List D} : forC T call ts tu b (x :: xs) env = nextF T call ts tu b xs (fstepB T call b (setT env ts tu x)) := by
  unfold forC
  rw [forL]
  cases setT env ts tu x with
  | none => rfl
  | some e1 =>
    simp only [fstepB_some]
    cases evBl T call b e1 <;> rfl
end
end VS
set_option Elab.async false
set_option linter.all false
set_option maxRecDepth 100000
set_option maxHeartbeats 2000000
/-! VPf: items of owned lists changed. -/
namespace VS
open PySem PySem.Spec PyProof.Rows L2
theorem updI_ln {n k : Nat} {f : Nat → D} {g : D → Option D} (h : k < n) : updI (k : Int) g (.lst true (ln n f)) = (g (f k)).map fun y => D.lst true (ln n fun j => if j = k then y else f j) := by
  show (if 0 ≤ (k : Int) ∧ (k : Int) < (ln n f).length then ((ln n f)[(k : Int).toNat]?).bind fun x => (g x).map fun y => D.lst true ((ln n f).set (k : Int).toNat y) else none) = _
  rw [if_pos (by simp; omega)]
  simp only [Int.toNat_natCast]
  rw [ln_get h]
  simp only [Option.bind_some]
  cases g (f k) with
  | none => rfl
  | some y => simp only [Option.map_some]; rw [ln_set h]
theorem stI_ln {n k : Nat} {f : Nat → D} {x : D} (h : k < n) : stI (k : Int) x (.lst true (ln n f)) = some (.lst true (ln n fun j => if j = k then x else f j)) := by
  show (if 0 ≤ (k : Int) ∧ (k : Int) < (ln n f).length then some (D.lst true ((ln n f).set (k : Int).toNat x)) else none) = _
  rw [if_pos (by simp; omega)]
  simp only [Int.toNat_natCast]
  rw [ln_set h]
end VS
set_option Elab.async false
set_option linter.all false
set_option maxRecDepth 100000
set_option maxHeartbeats 0
/-! each def's call, each class's fields by rewriting: printed by wip/print.py -/
namespace Lw
open PySem PySem.Spec PyProof.Rows L2 VS
section
variable {call : Nat → List D → CR} {env u : VE} {m : Bool}
@[simp] theorem e_law {as kv : Es} {ks : List Str} : evX T call m (.call f_law as ks kv) env = fin m (evL T call (toL as) env fun ds v => evL T call (toL kv) v fun ws u => callS T call f_law (lenEs as) ks ds ws u) := evX_callL t_law rfl
@[simp] theorem mu_law {as kv : Es} {ks : List Str} : muE T (.call f_law as ks kv) = (false || muEs T as || muEs T kv) := muE_call t_law
@[simp] theorem s_law_0 {x0 : D} : callS T call f_law 1 [] [x0] [] u = toR (call f_law [x0.fz]) u := callS_eq t_law rfl rfl rfl (by simp) rfl
@[simp] theorem e__law_draws {as kv : Es} {ks : List Str} : evX T call m (.call f__law_draws as ks kv) env = fin m (evL T call (toL as) env fun ds v => evL T call (toL kv) v fun ws u => callS T call f__law_draws (lenEs as) ks ds ws u) := evX_callL t__law_draws rfl
@[simp] theorem mu__law_draws {as kv : Es} {ks : List Str} : muE T (.call f__law_draws as ks kv) = (false || muEs T as || muEs T kv) := muE_call t__law_draws
@[simp] theorem s__law_draws_0 {x0 : D} : callS T call f__law_draws 1 [] [x0] [] u = toR (call f__law_draws [x0.fz]) u := callS_eq t__law_draws rfl rfl rfl (by simp) rfl
@[simp] theorem e__law_case_late {i : Nat} {es : Es} : evX T call m (.call f__law_case_late (.cons (.var i) es) [] .nil) env = fin m (if (getV env i).isNone then .no else evL T call (toL es) env fun ds v => muS T call f__law_case_late ds i v) := evX_callML t__law_case_late rfl
@[simp] theorem mu__law_case_late {as kv : Es} {ks : List Str} : muE T (.call f__law_case_late as ks kv) = (true || muEs T as || muEs T kv) := muE_call t__law_case_late
@[simp] theorem s__law_case_late_0 {i : Nat} : muS T call f__law_case_late [] i u = mutC (ownL (getV u i)) fun xs => toM (call f__law_case_late [(.lst true xs)]) u i := muS_eq t__law_case_late rfl rfl
@[simp] theorem e__law_spots {as kv : Es} {ks : List Str} : evX T call m (.call f__law_spots as ks kv) env = fin m (evL T call (toL as) env fun ds v => evL T call (toL kv) v fun ws u => callS T call f__law_spots (lenEs as) ks ds ws u) := evX_callL t__law_spots rfl
@[simp] theorem mu__law_spots {as kv : Es} {ks : List Str} : muE T (.call f__law_spots as ks kv) = (false || muEs T as || muEs T kv) := muE_call t__law_spots
@[simp] theorem s__law_spots_0 {x0 : D} : callS T call f__law_spots 1 [] [x0] [] u = toR (call f__law_spots [x0.fz]) u := callS_eq t__law_spots rfl rfl rfl (by simp) rfl
@[simp] theorem e_Web___init__ {as kv : Es} {ks : List Str} : evX T call m (.new n_Web as ks kv) env = fin m (evL T call (toL as) env fun ds v => evL T call (toL kv) v fun ws u => newS T call n_Web (lenEs as + 1) ks ds ws u) := evX_newL u_Web rfl t_Web___init__
@[simp] theorem s_Web___init___0 {x0 y0 y1 : D} : newS T call n_Web 2 ["downs", "sizes"] [x0] [y0, y1] u = toN (call f_Web___init__ [(.obj true n_Web []), x0.fz, y0.fz, y1.fz]) u := newS_eq u_Web rfl t_Web___init__ rfl rfl rfl rfl rfl rfl
@[simp] theorem e__law_first_kept {as kv : Es} {ks : List Str} : evX T call m (.call f__law_first_kept as ks kv) env = fin m (evL T call (toL as) env fun ds v => evL T call (toL kv) v fun ws u => callS T call f__law_first_kept (lenEs as) ks ds ws u) := evX_callL t__law_first_kept rfl
@[simp] theorem mu__law_first_kept {as kv : Es} {ks : List Str} : muE T (.call f__law_first_kept as ks kv) = (false || muEs T as || muEs T kv) := muE_call t__law_first_kept
@[simp] theorem s__law_first_kept_0 {x0 : D} : callS T call f__law_first_kept 1 [] [x0] [] u = toR (call f__law_first_kept [x0.fz]) u := callS_eq t__law_first_kept rfl rfl rfl (by simp) rfl
@[simp] theorem e__law_more {as kv : Es} {ks : List Str} : evX T call m (.call f__law_more as ks kv) env = fin m (evL T call (toL as) env fun ds v => evL T call (toL kv) v fun ws u => callS T call f__law_more (lenEs as) ks ds ws u) := evX_callL t__law_more rfl
@[simp] theorem mu__law_more {as kv : Es} {ks : List Str} : muE T (.call f__law_more as ks kv) = (false || muEs T as || muEs T kv) := muE_call t__law_more
@[simp] theorem s__law_more_0 {x0 x1 x2 : D} : callS T call f__law_more 3 [] [x0, x1, x2] [] u = toR (call f__law_more [x0.fz, x1.fz, x2.fz]) u := callS_eq t__law_more rfl rfl rfl (by simp) rfl
@[simp] theorem e__law_take {i : Nat} {es : Es} : evX T call m (.call f__law_take (.cons (.var i) es) [] .nil) env = fin m (if (getV env i).isNone then .no else evL T call (toL es) env fun ds v => muS T call f__law_take ds i v) := evX_callML t__law_take rfl
@[simp] theorem mu__law_take {as kv : Es} {ks : List Str} : muE T (.call f__law_take as ks kv) = (true || muEs T as || muEs T kv) := muE_call t__law_take
@[simp] theorem s__law_take_0 {x1 : D} {i : Nat} : muS T call f__law_take [x1] i u = mutC (ownL (getV u i)) fun xs => toM (call f__law_take [(.lst true xs), x1.fz]) u i := muS_eq t__law_take rfl rfl
@[simp] theorem e__law_row_right {as kv : Es} {ks : List Str} : evX T call m (.call f__law_row_right as ks kv) env = fin m (evL T call (toL as) env fun ds v => evL T call (toL kv) v fun ws u => callS T call f__law_row_right (lenEs as) ks ds ws u) := evX_callL t__law_row_right rfl
@[simp] theorem mu__law_row_right {as kv : Es} {ks : List Str} : muE T (.call f__law_row_right as ks kv) = (false || muEs T as || muEs T kv) := muE_call t__law_row_right
@[simp] theorem s__law_row_right_0 {x0 x1 x2 : D} : callS T call f__law_row_right 3 [] [x0, x1, x2] [] u = toR (call f__law_row_right [x0.fz, x1.fz, x2.fz]) u := callS_eq t__law_row_right rfl rfl rfl (by simp) rfl
@[simp] theorem e__law_exchanged {as kv : Es} {ks : List Str} : evX T call m (.call f__law_exchanged as ks kv) env = fin m (evL T call (toL as) env fun ds v => evL T call (toL kv) v fun ws u => callS T call f__law_exchanged (lenEs as) ks ds ws u) := evX_callL t__law_exchanged rfl
@[simp] theorem mu__law_exchanged {as kv : Es} {ks : List Str} : muE T (.call f__law_exchanged as ks kv) = (false || muEs T as || muEs T kv) := muE_call t__law_exchanged
@[simp] theorem s__law_exchanged_0 {x0 : D} : callS T call f__law_exchanged 1 [] [x0] [] u = toR (call f__law_exchanged [x0.fz]) u := callS_eq t__law_exchanged rfl rfl rfl (by simp) rfl
@[simp] theorem e__law_menu_unlike {as kv : Es} {ks : List Str} : evX T call m (.call f__law_menu_unlike as ks kv) env = fin m (evL T call (toL as) env fun ds v => evL T call (toL kv) v fun ws u => callS T call f__law_menu_unlike (lenEs as) ks ds ws u) := evX_callL t__law_menu_unlike rfl
@[simp] theorem mu__law_menu_unlike {as kv : Es} {ks : List Str} : muE T (.call f__law_menu_unlike as ks kv) = (false || muEs T as || muEs T kv) := muE_call t__law_menu_unlike
@[simp] theorem s__law_menu_unlike_0 {x0 : D} : callS T call f__law_menu_unlike 1 [] [x0] [] u = toR (call f__law_menu_unlike [x0.fz]) u := callS_eq t__law_menu_unlike rfl rfl rfl (by simp) rfl
@[simp] theorem e__law_chain {as kv : Es} {ks : List Str} : evX T call m (.call f__law_chain as ks kv) env = fin m (evL T call (toL as) env fun ds v => evL T call (toL kv) v fun ws u => callS T call f__law_chain (lenEs as) ks ds ws u) := evX_callL t__law_chain rfl
@[simp] theorem mu__law_chain {as kv : Es} {ks : List Str} : muE T (.call f__law_chain as ks kv) = (false || muEs T as || muEs T kv) := muE_call t__law_chain
@[simp] theorem s__law_chain_0 {x0 x1 x2 : D} : callS T call f__law_chain 3 [] [x0, x1, x2] [] u = toR (call f__law_chain [x0.fz, x1.fz, x2.fz]) u := callS_eq t__law_chain rfl rfl rfl (by simp) rfl
@[simp] theorem e__law_may_start {as kv : Es} {ks : List Str} : evX T call m (.call f__law_may_start as ks kv) env = fin m (evL T call (toL as) env fun ds v => evL T call (toL kv) v fun ws u => callS T call f__law_may_start (lenEs as) ks ds ws u) := evX_callL t__law_may_start rfl
@[simp] theorem mu__law_may_start {as kv : Es} {ks : List Str} : muE T (.call f__law_may_start as ks kv) = (false || muEs T as || muEs T kv) := muE_call t__law_may_start
@[simp] theorem s__law_may_start_0 {x0 x1 x2 : D} : callS T call f__law_may_start 3 [] [x0, x1, x2] [] u = toR (call f__law_may_start [x0.fz, x1.fz, x2.fz]) u := callS_eq t__law_may_start rfl rfl rfl (by simp) rfl
@[simp] theorem e__law_joined {as kv : Es} {ks : List Str} : evX T call m (.call f__law_joined as ks kv) env = fin m (evL T call (toL as) env fun ds v => evL T call (toL kv) v fun ws u => callS T call f__law_joined (lenEs as) ks ds ws u) := evX_callL t__law_joined rfl
@[simp] theorem mu__law_joined {as kv : Es} {ks : List Str} : muE T (.call f__law_joined as ks kv) = (false || muEs T as || muEs T kv) := muE_call t__law_joined
@[simp] theorem s__law_joined_0 {x0 x1 : D} : callS T call f__law_joined 2 [] [x0, x1] [] u = toR (call f__law_joined [x0.fz, x1.fz]) u := callS_eq t__law_joined rfl rfl rfl (by simp) rfl
@[simp] theorem e_web_parts {as kv : Es} {ks : List Str} : evX T call m (.call f_web_parts as ks kv) env = fin m (evL T call (toL as) env fun ds v => evL T call (toL kv) v fun ws u => callS T call f_web_parts (lenEs as) ks ds ws u) := evX_callL t_web_parts rfl
@[simp] theorem mu_web_parts {as kv : Es} {ks : List Str} : muE T (.call f_web_parts as ks kv) = (false || muEs T as || muEs T kv) := muE_call t_web_parts
@[simp] theorem s_web_parts_0 {x0 x1 x2 : D} : callS T call f_web_parts 3 [] [x0, x1, x2] [] u = toR (call f_web_parts [x0.fz, x1.fz, x2.fz]) u := callS_eq t_web_parts rfl rfl rfl (by simp) rfl
@[simp] theorem e_Kept___init__ {as kv : Es} {ks : List Str} : evX T call m (.new n_Kept as ks kv) env = fin m (evL T call (toL as) env fun ds v => evL T call (toL kv) v fun ws u => newS T call n_Kept (lenEs as + 1) ks ds ws u) := evX_newL u_Kept rfl t_Kept___init__
@[simp] theorem s_Kept___init___0 {x0 x1 : D} : newS T call n_Kept 3 [] [x0, x1] [] u = toN (call f_Kept___init__ [(.obj true n_Kept []), x0.fz, x1.fz]) u := newS_eq u_Kept rfl t_Kept___init__ rfl rfl rfl rfl rfl rfl
@[simp] theorem e_Numbers___init__ {as kv : Es} {ks : List Str} : evX T call m (.new n_Numbers as ks kv) env = fin m (evL T call (toL as) env fun ds v => evL T call (toL kv) v fun ws u => newS T call n_Numbers (lenEs as + 1) ks ds ws u) := evX_newL u_Numbers rfl t_Numbers___init__
@[simp] theorem s_Numbers___init___0 {x0 : D} : newS T call n_Numbers 2 [] [x0] [] u = toN (call f_Numbers___init__ [(.obj true n_Numbers []), x0.fz, ((.tup (([1, 1] : List Int).map D.int)))]) u := newS_eq u_Numbers rfl t_Numbers___init__ rfl rfl rfl rfl rfl rfl
@[simp] theorem e__law_copy {as kv : Es} {ks : List Str} : evX T call m (.call f__law_copy as ks kv) env = fin m (evL T call (toL as) env fun ds v => evL T call (toL kv) v fun ws u => callS T call f__law_copy (lenEs as) ks ds ws u) := evX_callL t__law_copy rfl
@[simp] theorem mu__law_copy {as kv : Es} {ks : List Str} : muE T (.call f__law_copy as ks kv) = (false || muEs T as || muEs T kv) := muE_call t__law_copy
@[simp] theorem s__law_copy_0 {x0 : D} : callS T call f__law_copy 1 [] [x0] [] u = toR (call f__law_copy [x0.fz]) u := callS_eq t__law_copy rfl rfl rfl (by simp) rfl
@[simp] theorem e__law_pair {as kv : Es} {ks : List Str} : evX T call m (.call f__law_pair as ks kv) env = fin m (evL T call (toL as) env fun ds v => evL T call (toL kv) v fun ws u => callS T call f__law_pair (lenEs as) ks ds ws u) := evX_callL t__law_pair rfl
@[simp] theorem mu__law_pair {as kv : Es} {ks : List Str} : muE T (.call f__law_pair as ks kv) = (false || muEs T as || muEs T kv) := muE_call t__law_pair
@[simp] theorem s__law_pair_0 {x0 x1 : D} : callS T call f__law_pair 2 [] [x0, x1] [] u = toR (call f__law_pair [x0.fz, x1.fz]) u := callS_eq t__law_pair rfl rfl rfl (by simp) rfl
@[simp] theorem e_above_judging {as kv : Es} {ks : List Str} : evX T call m (.call f_above_judging as ks kv) env = fin m (evL T call (toL as) env fun ds v => evL T call (toL kv) v fun ws u => callS T call f_above_judging (lenEs as) ks ds ws u) := evX_callL t_above_judging rfl
@[simp] theorem mu_above_judging {as kv : Es} {ks : List Str} : muE T (.call f_above_judging as ks kv) = (false || muEs T as || muEs T kv) := muE_call t_above_judging
@[simp] theorem s_above_judging_0 {x0 x1 : D} : callS T call f_above_judging 2 [] [x0, x1] [] u = toR (call f_above_judging [x0.fz, x1.fz]) u := callS_eq t_above_judging rfl rfl rfl (by simp) rfl
@[simp] theorem e_below_judging {as kv : Es} {ks : List Str} : evX T call m (.call f_below_judging as ks kv) env = fin m (evL T call (toL as) env fun ds v => evL T call (toL kv) v fun ws u => callS T call f_below_judging (lenEs as) ks ds ws u) := evX_callL t_below_judging rfl
@[simp] theorem mu_below_judging {as kv : Es} {ks : List Str} : muE T (.call f_below_judging as ks kv) = (false || muEs T as || muEs T kv) := muE_call t_below_judging
@[simp] theorem s_below_judging_0 {x0 x1 : D} : callS T call f_below_judging 2 [] [x0, x1] [] u = toR (call f_below_judging [x0.fz, x1.fz]) u := callS_eq t_below_judging rfl rfl rfl (by simp) rfl
@[simp] theorem e_keeps {as kv : Es} {ks : List Str} : evX T call m (.call f_keeps as ks kv) env = fin m (evL T call (toL as) env fun ds v => evL T call (toL kv) v fun ws u => callS T call f_keeps (lenEs as) ks ds ws u) := evX_callL t_keeps rfl
@[simp] theorem mu_keeps {as kv : Es} {ks : List Str} : muE T (.call f_keeps as ks kv) = (false || muEs T as || muEs T kv) := muE_call t_keeps
@[simp] theorem s_keeps_0 {x0 x1 x2 x3 : D} : callS T call f_keeps 4 [] [x0, x1, x2, x3] [] u = toR (call f_keeps [x0.fz, x1.fz, x2.fz, x3.fz]) u := callS_eq t_keeps rfl rfl rfl (by simp) rfl
@[simp] theorem e_breach {as kv : Es} {ks : List Str} : evX T call m (.call f_breach as ks kv) env = fin m (evL T call (toL as) env fun ds v => evL T call (toL kv) v fun ws u => callS T call f_breach (lenEs as) ks ds ws u) := evX_callL t_breach rfl
@[simp] theorem mu_breach {as kv : Es} {ks : List Str} : muE T (.call f_breach as ks kv) = (false || muEs T as || muEs T kv) := muE_call t_breach
@[simp] theorem s_breach_0 {x0 x1 x2 x3 : D} : callS T call f_breach 4 [] [x0, x1, x2, x3] [] u = toR (call f_breach [x0.fz, x1.fz, x2.fz, x3.fz]) u := callS_eq t_breach rfl rfl rfl (by simp) rfl
@[simp] theorem e__law_fails {as kv : Es} {ks : List Str} : evX T call m (.call f__law_fails as ks kv) env = fin m (evL T call (toL as) env fun ds v => evL T call (toL kv) v fun ws u => callS T call f__law_fails (lenEs as) ks ds ws u) := evX_callL t__law_fails rfl
@[simp] theorem mu__law_fails {as kv : Es} {ks : List Str} : muE T (.call f__law_fails as ks kv) = (false || muEs T as || muEs T kv) := muE_call t__law_fails
@[simp] theorem s__law_fails_0 {x0 x1 x2 x3 : D} : callS T call f__law_fails 4 [] [x0, x1, x2, x3] [] u = toR (call f__law_fails [x0.fz, x1.fz, x2.fz, x3.fz]) u := callS_eq t__law_fails rfl rfl rfl (by simp) rfl
@[simp] theorem e__law_still {as kv : Es} {ks : List Str} : evX T call m (.call f__law_still as ks kv) env = fin m (evL T call (toL as) env fun ds v => evL T call (toL kv) v fun ws u => callS T call f__law_still (lenEs as) ks ds ws u) := evX_callL t__law_still rfl
@[simp] theorem mu__law_still {as kv : Es} {ks : List Str} : muE T (.call f__law_still as ks kv) = (false || muEs T as || muEs T kv) := muE_call t__law_still
@[simp] theorem s__law_still_0 {x0 : D} : callS T call f__law_still 1 [] [x0] [] u = toR (call f__law_still [x0.fz]) u := callS_eq t__law_still rfl rfl rfl (by simp) rfl
@[simp] theorem e__law_table {as kv : Es} {ks : List Str} : evX T call m (.call f__law_table as ks kv) env = fin m (evL T call (toL as) env fun ds v => evL T call (toL kv) v fun ws u => callS T call f__law_table (lenEs as) ks ds ws u) := evX_callL t__law_table rfl
@[simp] theorem mu__law_table {as kv : Es} {ks : List Str} : muE T (.call f__law_table as ks kv) = (false || muEs T as || muEs T kv) := muE_call t__law_table
@[simp] theorem s__law_table_0 {x0 x1 : D} : callS T call f__law_table 2 [] [x0, x1] [] u = toR (call f__law_table [x0.fz, x1.fz]) u := callS_eq t__law_table rfl rfl rfl (by simp) rfl
@[simp] theorem e__law_gain {as kv : Es} {ks : List Str} : evX T call m (.call f__law_gain as ks kv) env = fin m (evL T call (toL as) env fun ds v => evL T call (toL kv) v fun ws u => callS T call f__law_gain (lenEs as) ks ds ws u) := evX_callL t__law_gain rfl
@[simp] theorem mu__law_gain {as kv : Es} {ks : List Str} : muE T (.call f__law_gain as ks kv) = (false || muEs T as || muEs T kv) := muE_call t__law_gain
@[simp] theorem s__law_gain_0 {x0 x1 x2 : D} : callS T call f__law_gain 3 [] [x0, x1, x2] [] u = toR (call f__law_gain [x0.fz, x1.fz, x2.fz]) u := callS_eq t__law_gain rfl rfl rfl (by simp) rfl
@[simp] theorem e_fitted {as kv : Es} {ks : List Str} : evX T call m (.call f_fitted as ks kv) env = fin m (evL T call (toL as) env fun ds v => evL T call (toL kv) v fun ws u => callS T call f_fitted (lenEs as) ks ds ws u) := evX_callL t_fitted rfl
@[simp] theorem mu_fitted {as kv : Es} {ks : List Str} : muE T (.call f_fitted as ks kv) = (false || muEs T as || muEs T kv) := muE_call t_fitted
@[simp] theorem s_fitted_0 {x0 x1 x2 : D} : callS T call f_fitted 3 [] [x0, x1, x2] [] u = toR (call f_fitted [x0.fz, x1.fz, x2.fz]) u := callS_eq t_fitted rfl rfl rfl (by simp) rfl
@[simp] theorem e_is_row {as kv : Es} {ks : List Str} : evX T call m (.call f_is_row as ks kv) env = fin m (evL T call (toL as) env fun ds v => evL T call (toL kv) v fun ws u => callS T call f_is_row (lenEs as) ks ds ws u) := evX_callL t_is_row rfl
@[simp] theorem mu_is_row {as kv : Es} {ks : List Str} : muE T (.call f_is_row as ks kv) = (false || muEs T as || muEs T kv) := muE_call t_is_row
@[simp] theorem s_is_row_0 {x0 : D} : callS T call f_is_row 1 [] [x0] [] u = toR (call f_is_row [x0.fz]) u := callS_eq t_is_row rfl rfl rfl (by simp) rfl
@[simp] theorem e_told_sizes {as kv : Es} {ks : List Str} : evX T call m (.call f_told_sizes as ks kv) env = fin m (evL T call (toL as) env fun ds v => evL T call (toL kv) v fun ws u => callS T call f_told_sizes (lenEs as) ks ds ws u) := evX_callL t_told_sizes rfl
@[simp] theorem mu_told_sizes {as kv : Es} {ks : List Str} : muE T (.call f_told_sizes as ks kv) = (false || muEs T as || muEs T kv) := muE_call t_told_sizes
@[simp] theorem s_told_sizes_0 {x0 : D} : callS T call f_told_sizes 1 [] [x0] [] u = toR (call f_told_sizes [x0.fz]) u := callS_eq t_told_sizes rfl rfl rfl (by simp) rfl
@[simp] theorem e_checked_sizes {as kv : Es} {ks : List Str} : evX T call m (.call f_checked_sizes as ks kv) env = fin m (evL T call (toL as) env fun ds v => evL T call (toL kv) v fun ws u => callS T call f_checked_sizes (lenEs as) ks ds ws u) := evX_callL t_checked_sizes rfl
@[simp] theorem mu_checked_sizes {as kv : Es} {ks : List Str} : muE T (.call f_checked_sizes as ks kv) = (false || muEs T as || muEs T kv) := muE_call t_checked_sizes
@[simp] theorem s_checked_sizes_0 {x0 x1 : D} : callS T call f_checked_sizes 2 [] [x0, x1] [] u = toR (call f_checked_sizes [x0.fz, x1.fz]) u := callS_eq t_checked_sizes rfl rfl rfl (by simp) rfl
@[simp] theorem e_first_apart {as kv : Es} {ks : List Str} : evX T call m (.call f_first_apart as ks kv) env = fin m (evL T call (toL as) env fun ds v => evL T call (toL kv) v fun ws u => callS T call f_first_apart (lenEs as) ks ds ws u) := evX_callL t_first_apart rfl
@[simp] theorem mu_first_apart {as kv : Es} {ks : List Str} : muE T (.call f_first_apart as ks kv) = (false || muEs T as || muEs T kv) := muE_call t_first_apart
@[simp] theorem s_first_apart_0 {x0 x1 x2 : D} : callS T call f_first_apart 3 [] [x0, x1, x2] [] u = toR (call f_first_apart [x0.fz, x1.fz, x2.fz]) u := callS_eq t_first_apart rfl rfl rfl (by simp) rfl
@[simp] theorem e_told_pair {as kv : Es} {ks : List Str} : evX T call m (.call f_told_pair as ks kv) env = fin m (evL T call (toL as) env fun ds v => evL T call (toL kv) v fun ws u => callS T call f_told_pair (lenEs as) ks ds ws u) := evX_callL t_told_pair rfl
@[simp] theorem mu_told_pair {as kv : Es} {ks : List Str} : muE T (.call f_told_pair as ks kv) = (false || muEs T as || muEs T kv) := muE_call t_told_pair
@[simp] theorem s_told_pair_0 {x0 x1 : D} : callS T call f_told_pair 2 [] [x0, x1] [] u = toR (call f_told_pair [x0.fz, x1.fz]) u := callS_eq t_told_pair rfl rfl rfl (by simp) rfl
@[simp] theorem e_check_rank {as kv : Es} {ks : List Str} : evX T call m (.call f_check_rank as ks kv) env = fin m (evL T call (toL as) env fun ds v => evL T call (toL kv) v fun ws u => callS T call f_check_rank (lenEs as) ks ds ws u) := evX_callL t_check_rank rfl
@[simp] theorem mu_check_rank {as kv : Es} {ks : List Str} : muE T (.call f_check_rank as ks kv) = (false || muEs T as || muEs T kv) := muE_call t_check_rank
@[simp] theorem s_check_rank_0 {x0 x1 : D} : callS T call f_check_rank 2 [] [x0, x1] [] u = toR (call f_check_rank [x0.fz, x1.fz]) u := callS_eq t_check_rank rfl rfl rfl (by simp) rfl
@[simp] theorem e_check_number {as kv : Es} {ks : List Str} : evX T call m (.call f_check_number as ks kv) env = fin m (evL T call (toL as) env fun ds v => evL T call (toL kv) v fun ws u => callS T call f_check_number (lenEs as) ks ds ws u) := evX_callL t_check_number rfl
@[simp] theorem mu_check_number {as kv : Es} {ks : List Str} : muE T (.call f_check_number as ks kv) = (false || muEs T as || muEs T kv) := muE_call t_check_number
@[simp] theorem s_check_number_0 {x0 x1 x2 : D} : callS T call f_check_number 3 [] [x0, x1, x2] [] u = toR (call f_check_number [x0.fz, x1.fz, x2.fz]) u := callS_eq t_check_number rfl rfl rfl (by simp) rfl
@[simp] theorem e_check_table {as kv : Es} {ks : List Str} : evX T call m (.call f_check_table as ks kv) env = fin m (evL T call (toL as) env fun ds v => evL T call (toL kv) v fun ws u => callS T call f_check_table (lenEs as) ks ds ws u) := evX_callL t_check_table rfl
@[simp] theorem mu_check_table {as kv : Es} {ks : List Str} : muE T (.call f_check_table as ks kv) = (false || muEs T as || muEs T kv) := muE_call t_check_table
@[simp] theorem s_check_table_0 {x0 x1 x2 y0 : D} : callS T call f_check_table 3 ["least"] [x0, x1, x2] [y0] u = toR (call f_check_table [x0.fz, x1.fz, x2.fz, y0.fz]) u := callS_eq t_check_table rfl rfl rfl (by simp) rfl
@[simp] theorem e_is_int {as kv : Es} {ks : List Str} : evX T call m (.call f_is_int as ks kv) env = fin m (evL T call (toL as) env fun ds v => evL T call (toL kv) v fun ws u => callS T call f_is_int (lenEs as) ks ds ws u) := evX_callL t_is_int rfl
@[simp] theorem mu_is_int {as kv : Es} {ks : List Str} : muE T (.call f_is_int as ks kv) = (false || muEs T as || muEs T kv) := muE_call t_is_int
@[simp] theorem s_is_int_0 {x0 : D} : callS T call f_is_int 1 [] [x0] [] u = toR (call f_is_int [x0.fz]) u := callS_eq t_is_int rfl rfl rfl (by simp) rfl
@[simp] theorem e_check_height {as kv : Es} {ks : List Str} : evX T call m (.call f_check_height as ks kv) env = fin m (evL T call (toL as) env fun ds v => evL T call (toL kv) v fun ws u => callS T call f_check_height (lenEs as) ks ds ws u) := evX_callL t_check_height rfl
@[simp] theorem mu_check_height {as kv : Es} {ks : List Str} : muE T (.call f_check_height as ks kv) = (false || muEs T as || muEs T kv) := muE_call t_check_height
@[simp] theorem s_check_height_0 {x0 : D} : callS T call f_check_height 1 [] [x0] [] u = toR (call f_check_height [x0.fz]) u := callS_eq t_check_height rfl rfl rfl (by simp) rfl
@[simp] theorem at_Web_sizes {o : Bool} {vs : List D} : attrD T call (.obj o n_Web vs) "sizes" env = fldR vs[0]? env := attr_fld u_Web rfl
@[simp] theorem st_Web_sizes {vs : List D} {x : D} : asgD T (.obj true n_Web vs) "sizes" x = if 0 = vs.length then some (.obj true n_Web (vs ++ [x])) else none := asg_fld u_Web rfl
@[simp] theorem at_Web_ups {o : Bool} {vs : List D} : attrD T call (.obj o n_Web vs) "ups" env = fldR vs[1]? env := attr_fld u_Web rfl
@[simp] theorem st_Web_ups {vs : List D} {x : D} : asgD T (.obj true n_Web vs) "ups" x = if 1 = vs.length then some (.obj true n_Web (vs ++ [x])) else none := asg_fld u_Web rfl
@[simp] theorem at_Web_downs {o : Bool} {vs : List D} : attrD T call (.obj o n_Web vs) "downs" env = fldR vs[2]? env := attr_fld u_Web rfl
@[simp] theorem st_Web_downs {vs : List D} {x : D} : asgD T (.obj true n_Web vs) "downs" x = if 2 = vs.length then some (.obj true n_Web (vs ++ [x])) else none := asg_fld u_Web rfl
@[simp] theorem at_Web_top {vs : List D} (h : D.allFz vs = true) : attrD T call (.obj false n_Web vs) "top" env = okOnly (toR (call f_Web_top [.obj false n_Web vs]) env) := attr_prop u_Web rfl rfl t_Web_top rfl rfl rfl h
@[simp] theorem it_Web {vs : List D} {k : Int} (h : D.allFz vs = true) : subD T call (.obj false n_Web vs) (.int k) env = toR (call f_Web___getitem__ [.obj false n_Web vs, .int k]) env := sub_item u_Web rfl t_Web___getitem__ rfl rfl rfl h rfl
@[simp] theorem at_Kept_web {o : Bool} {vs : List D} : attrD T call (.obj o n_Kept vs) "web" env = fldR vs[0]? env := attr_fld u_Kept rfl
@[simp] theorem st_Kept_web {vs : List D} {x : D} : asgD T (.obj true n_Kept vs) "web" x = if 0 = vs.length then some (.obj true n_Kept (vs ++ [x])) else none := asg_fld u_Kept rfl
@[simp] theorem at_Kept_numbers {o : Bool} {vs : List D} : attrD T call (.obj o n_Kept vs) "numbers" env = fldR vs[1]? env := attr_fld u_Kept rfl
@[simp] theorem st_Kept_numbers {vs : List D} {x : D} : asgD T (.obj true n_Kept vs) "numbers" x = if 1 = vs.length then some (.obj true n_Kept (vs ++ [x])) else none := asg_fld u_Kept rfl
@[simp] theorem at_Kept_sizes {o : Bool} {vs : List D} : attrD T call (.obj o n_Kept vs) "sizes" env = fldR vs[2]? env := attr_fld u_Kept rfl
@[simp] theorem st_Kept_sizes {vs : List D} {x : D} : asgD T (.obj true n_Kept vs) "sizes" x = if 2 = vs.length then some (.obj true n_Kept (vs ++ [x])) else none := asg_fld u_Kept rfl
@[simp] theorem at_Kept__belows {o : Bool} {vs : List D} : attrD T call (.obj o n_Kept vs) "_belows" env = fldR vs[3]? env := attr_fld u_Kept rfl
@[simp] theorem st_Kept__belows {vs : List D} {x : D} : asgD T (.obj true n_Kept vs) "_belows" x = if 3 = vs.length then some (.obj true n_Kept (vs ++ [x])) else none := asg_fld u_Kept rfl
@[simp] theorem at_Kept__aboves {o : Bool} {vs : List D} : attrD T call (.obj o n_Kept vs) "_aboves" env = fldR vs[4]? env := attr_fld u_Kept rfl
@[simp] theorem st_Kept__aboves {vs : List D} {x : D} : asgD T (.obj true n_Kept vs) "_aboves" x = if 4 = vs.length then some (.obj true n_Kept (vs ++ [x])) else none := asg_fld u_Kept rfl
@[simp] theorem at_Kept__row {o : Bool} {vs : List D} : attrD T call (.obj o n_Kept vs) "_row" env = fldR vs[5]? env := attr_fld u_Kept rfl
@[simp] theorem st_Kept__row {vs : List D} {x : D} : asgD T (.obj true n_Kept vs) "_row" x = if 5 = vs.length then some (.obj true n_Kept (vs ++ [x])) else none := asg_fld u_Kept rfl
@[simp] theorem at_Kept_top {vs : List D} (h : D.allFz vs = true) : attrD T call (.obj false n_Kept vs) "top" env = okOnly (toR (call f_Kept_top [.obj false n_Kept vs]) env) := attr_prop u_Kept rfl rfl t_Kept_top rfl rfl rfl h
@[simp] theorem at_Numbers_tail {o : Bool} {vs : List D} : attrD T call (.obj o n_Numbers vs) "tail" env = fldR vs[0]? env := attr_fld u_Numbers rfl
@[simp] theorem st_Numbers_tail {vs : List D} {x : D} : asgD T (.obj true n_Numbers vs) "tail" x = if 0 = vs.length then some (.obj true n_Numbers (vs ++ [x])) else none := asg_fld u_Numbers rfl
@[simp] theorem at_Numbers_pairs {o : Bool} {vs : List D} : attrD T call (.obj o n_Numbers vs) "pairs" env = fldR vs[1]? env := attr_fld u_Numbers rfl
@[simp] theorem st_Numbers_pairs {vs : List D} {x : D} : asgD T (.obj true n_Numbers vs) "pairs" x = if 1 = vs.length then some (.obj true n_Numbers (vs ++ [x])) else none := asg_fld u_Numbers rfl
@[simp] theorem it_Numbers {vs : List D} {k : Int} (h : D.allFz vs = true) : subD T call (.obj false n_Numbers vs) (.int k) env = toR (call f_Numbers___getitem__ [.obj false n_Numbers vs, .int k]) env := sub_item u_Numbers rfl t_Numbers___getitem__ rfl rfl rfl h rfl
@[simp] theorem ex_NotKept : excC T n_NotKept = true := rfl
@[simp] theorem xa_NotKept_rank {vs : List D} : xatR T (some (.exv n_NotKept vs)) "rank" env = optR ((vs[0]?).map fun d => (d, env)) := xat_fld u_NotKept rfl
@[simp] theorem xa_NotKept_first {vs : List D} : xatR T (some (.exv n_NotKept vs)) "first" env = optR ((vs[1]?).map fun d => (d, env)) := xat_fld u_NotKept rfl
@[simp] theorem xa_NotKept_second {vs : List D} : xatR T (some (.exv n_NotKept vs)) "second" env = optR ((vs[2]?).map fun d => (d, env)) := xat_fld u_NotKept rfl
@[simp] theorem ra_NotKept {as : Es} : evS T call (.rai n_NotKept as) env = (evEs T call as env).fl fun p => if p.1.length = 3 then .ex n_NotKept (D.fzs p.1) p.2 else .no := rai_ok rfl u_NotKept
@[simp] theorem ex_BadTable : excC T n_BadTable = true := rfl
@[simp] theorem xa_BadTable_rank {vs : List D} : xatR T (some (.exv n_BadTable vs)) "rank" env = optR ((vs[0]?).map fun d => (d, env)) := xat_fld u_BadTable rfl
@[simp] theorem xa_BadTable_side {vs : List D} : xatR T (some (.exv n_BadTable vs)) "side" env = optR ((vs[1]?).map fun d => (d, env)) := xat_fld u_BadTable rfl
@[simp] theorem ra_BadTable {as : Es} : evS T call (.rai n_BadTable as) env = (evEs T call as env).fl fun p => if p.1.length = 2 then .ex n_BadTable (D.fzs p.1) p.2 else .no := rai_ok rfl u_BadTable
@[simp] theorem ex_BadNumbers : excC T n_BadNumbers = true := rfl
@[simp] theorem xa_BadNumbers_at {vs : List D} : xatR T (some (.exv n_BadNumbers vs)) "at" env = optR ((vs[0]?).map fun d => (d, env)) := xat_fld u_BadNumbers rfl
@[simp] theorem ra_BadNumbers {as : Es} : evS T call (.rai n_BadNumbers as) env = (evEs T call as env).fl fun p => if p.1.length = 1 then .ex n_BadNumbers (D.fzs p.1) p.2 else .no := rai_ok rfl u_BadNumbers
@[simp] theorem ex_Unseen : excC T n_Unseen = true := rfl
@[simp] theorem xa_Unseen_rank {vs : List D} : xatR T (some (.exv n_Unseen vs)) "rank" env = optR ((vs[0]?).map fun d => (d, env)) := xat_fld u_Unseen rfl
@[simp] theorem ra_Unseen {as : Es} : evS T call (.rai n_Unseen as) env = (evEs T call as env).fl fun p => if p.1.length = 1 then .ex n_Unseen (D.fzs p.1) p.2 else .no := rai_ok rfl u_Unseen
@[simp] theorem ex_BadSize : excC T n_BadSize = true := rfl
@[simp] theorem xa_BadSize_rank {vs : List D} : xatR T (some (.exv n_BadSize vs)) "rank" env = optR ((vs[0]?).map fun d => (d, env)) := xat_fld u_BadSize rfl
@[simp] theorem ra_BadSize {as : Es} : evS T call (.rai n_BadSize as) env = (evEs T call as env).fl fun p => if p.1.length = 1 then .ex n_BadSize (D.fzs p.1) p.2 else .no := rai_ok rfl u_BadSize
@[simp] theorem ex_BadRank : excC T n_BadRank = true := rfl
@[simp] theorem xa_BadRank_rank {vs : List D} : xatR T (some (.exv n_BadRank vs)) "rank" env = optR ((vs[0]?).map fun d => (d, env)) := xat_fld u_BadRank rfl
@[simp] theorem ra_BadRank {as : Es} : evS T call (.rai n_BadRank as) env = (evEs T call as env).fl fun p => if p.1.length = 1 then .ex n_BadRank (D.fzs p.1) p.2 else .no := rai_ok rfl u_BadRank
@[simp] theorem ex_BadNumber : excC T n_BadNumber = true := rfl
@[simp] theorem xa_BadNumber_name {vs : List D} : xatR T (some (.exv n_BadNumber vs)) "name" env = optR ((vs[0]?).map fun d => (d, env)) := xat_fld u_BadNumber rfl
@[simp] theorem ra_BadNumber {as : Es} : evS T call (.rai n_BadNumber as) env = (evEs T call as env).fl fun p => if p.1.length = 1 then .ex n_BadNumber (D.fzs p.1) p.2 else .no := rai_ok rfl u_BadNumber
@[simp] theorem sub_NotKept_NotKept : subC T n_NotKept n_NotKept = true := rfl
@[simp] theorem sub_NotKept_BadTable : subC T n_NotKept n_BadTable = false := rfl
@[simp] theorem sub_NotKept_BadNumbers : subC T n_NotKept n_BadNumbers = false := rfl
@[simp] theorem sub_NotKept_Unseen : subC T n_NotKept n_Unseen = false := rfl
@[simp] theorem sub_NotKept_BadSize : subC T n_NotKept n_BadSize = false := rfl
@[simp] theorem sub_NotKept_BadRank : subC T n_NotKept n_BadRank = false := rfl
@[simp] theorem sub_NotKept_BadNumber : subC T n_NotKept n_BadNumber = false := rfl
@[simp] theorem sub_BadTable_NotKept : subC T n_BadTable n_NotKept = false := rfl
@[simp] theorem sub_BadTable_BadTable : subC T n_BadTable n_BadTable = true := rfl
@[simp] theorem sub_BadTable_BadNumbers : subC T n_BadTable n_BadNumbers = false := rfl
@[simp] theorem sub_BadTable_Unseen : subC T n_BadTable n_Unseen = false := rfl
@[simp] theorem sub_BadTable_BadSize : subC T n_BadTable n_BadSize = false := rfl
@[simp] theorem sub_BadTable_BadRank : subC T n_BadTable n_BadRank = false := rfl
@[simp] theorem sub_BadTable_BadNumber : subC T n_BadTable n_BadNumber = false := rfl
@[simp] theorem sub_BadNumbers_NotKept : subC T n_BadNumbers n_NotKept = false := rfl
@[simp] theorem sub_BadNumbers_BadTable : subC T n_BadNumbers n_BadTable = false := rfl
@[simp] theorem sub_BadNumbers_BadNumbers : subC T n_BadNumbers n_BadNumbers = true := rfl
@[simp] theorem sub_BadNumbers_Unseen : subC T n_BadNumbers n_Unseen = false := rfl
@[simp] theorem sub_BadNumbers_BadSize : subC T n_BadNumbers n_BadSize = false := rfl
@[simp] theorem sub_BadNumbers_BadRank : subC T n_BadNumbers n_BadRank = false := rfl
@[simp] theorem sub_BadNumbers_BadNumber : subC T n_BadNumbers n_BadNumber = false := rfl
@[simp] theorem sub_Unseen_NotKept : subC T n_Unseen n_NotKept = false := rfl
@[simp] theorem sub_Unseen_BadTable : subC T n_Unseen n_BadTable = false := rfl
@[simp] theorem sub_Unseen_BadNumbers : subC T n_Unseen n_BadNumbers = false := rfl
@[simp] theorem sub_Unseen_Unseen : subC T n_Unseen n_Unseen = true := rfl
@[simp] theorem sub_Unseen_BadSize : subC T n_Unseen n_BadSize = false := rfl
@[simp] theorem sub_Unseen_BadRank : subC T n_Unseen n_BadRank = false := rfl
@[simp] theorem sub_Unseen_BadNumber : subC T n_Unseen n_BadNumber = false := rfl
@[simp] theorem sub_BadSize_NotKept : subC T n_BadSize n_NotKept = false := rfl
@[simp] theorem sub_BadSize_BadTable : subC T n_BadSize n_BadTable = false := rfl
@[simp] theorem sub_BadSize_BadNumbers : subC T n_BadSize n_BadNumbers = false := rfl
@[simp] theorem sub_BadSize_Unseen : subC T n_BadSize n_Unseen = false := rfl
@[simp] theorem sub_BadSize_BadSize : subC T n_BadSize n_BadSize = true := rfl
@[simp] theorem sub_BadSize_BadRank : subC T n_BadSize n_BadRank = false := rfl
@[simp] theorem sub_BadSize_BadNumber : subC T n_BadSize n_BadNumber = false := rfl
@[simp] theorem sub_BadRank_NotKept : subC T n_BadRank n_NotKept = false := rfl
@[simp] theorem sub_BadRank_BadTable : subC T n_BadRank n_BadTable = false := rfl
@[simp] theorem sub_BadRank_BadNumbers : subC T n_BadRank n_BadNumbers = false := rfl
@[simp] theorem sub_BadRank_Unseen : subC T n_BadRank n_Unseen = false := rfl
@[simp] theorem sub_BadRank_BadSize : subC T n_BadRank n_BadSize = false := rfl
@[simp] theorem sub_BadRank_BadRank : subC T n_BadRank n_BadRank = true := rfl
@[simp] theorem sub_BadRank_BadNumber : subC T n_BadRank n_BadNumber = false := rfl
@[simp] theorem sub_BadNumber_NotKept : subC T n_BadNumber n_NotKept = false := rfl
@[simp] theorem sub_BadNumber_BadTable : subC T n_BadNumber n_BadTable = false := rfl
@[simp] theorem sub_BadNumber_BadNumbers : subC T n_BadNumber n_BadNumbers = false := rfl
@[simp] theorem sub_BadNumber_Unseen : subC T n_BadNumber n_Unseen = false := rfl
@[simp] theorem sub_BadNumber_BadSize : subC T n_BadNumber n_BadSize = false := rfl
@[simp] theorem sub_BadNumber_BadRank : subC T n_BadNumber n_BadRank = false := rfl
@[simp] theorem sub_BadNumber_BadNumber : subC T n_BadNumber n_BadNumber = true := rfl
end
/-! each def's run -/
theorem run_law {n : Nat} {d0 : D} (h : D.allFz [d0] = true) : callF T (n + 1) f_law [d0] = endF false (evBl T (callF T n) c_law [some d0, none, none, none, none, none, none, none, none, none, none, none]) := callF_eq t_law rfl h
theorem run__law_draws {n : Nat} {d0 : D} (h : D.allFz [d0] = true) : callF T (n + 1) f__law_draws [d0] = endF false (evBl T (callF T n) c__law_draws [some d0, none, none, none, none, none]) := callF_eq t__law_draws rfl h
theorem run__law_case_late {n : Nat} {xs : List D} {z : D} (h : D.allFz [] = true) : callF T (n + 1) f__law_case_late [(.lst true xs)] = endF true (evBl T (callF T n) c__law_case_late [some (.lst true xs), none, none, none, none, none, none, none]) := callF_eq t__law_case_late rfl h
theorem run__law_spots {n : Nat} {d0 : D} (h : D.allFz [d0] = true) : callF T (n + 1) f__law_spots [d0] = endF false (evBl T (callF T n) c__law_spots [some d0, none, none, none, none]) := callF_eq t__law_spots rfl h
theorem run_Web___init__ {n : Nat} {d1 d2 d3 : D} (h : D.allFz [d1, d2, d3] = true) : callF T (n + 1) f_Web___init__ [(.obj true n_Web []), d1, d2, d3] = endF true (evBl T (callF T n) c_Web___init__ [some (.obj true n_Web []), some d1, some d2, some d3]) := callF_eq t_Web___init__ rfl h
theorem run__law_first_kept {n : Nat} {d0 : D} (h : D.allFz [d0] = true) : callF T (n + 1) f__law_first_kept [d0] = endF false (evBl T (callF T n) c__law_first_kept [some d0, none, none]) := callF_eq t__law_first_kept rfl h
theorem run__law_more {n : Nat} {d0 d1 d2 : D} (h : D.allFz [d0, d1, d2] = true) : callF T (n + 1) f__law_more [d0, d1, d2] = endF false (evBl T (callF T n) c__law_more [some d0, some d1, some d2, none, none]) := callF_eq t__law_more rfl h
theorem run__law_take {n : Nat} {xs : List D} {d1 : D} (h : D.allFz [d1] = true) : callF T (n + 1) f__law_take [(.lst true xs), d1] = endF true (evBl T (callF T n) c__law_take [some (.lst true xs), some d1]) := callF_eq t__law_take rfl h
theorem run__law_row_right {n : Nat} {d0 d1 d2 : D} (h : D.allFz [d0, d1, d2] = true) : callF T (n + 1) f__law_row_right [d0, d1, d2] = endF false (evBl T (callF T n) c__law_row_right [some d0, some d1, some d2, none, none, none, none, none, none, none, none, none, none]) := callF_eq t__law_row_right rfl h
theorem run__law_exchanged {n : Nat} {d0 : D} (h : D.allFz [d0] = true) : callF T (n + 1) f__law_exchanged [d0] = endF false (evBl T (callF T n) c__law_exchanged [some d0]) := callF_eq t__law_exchanged rfl h
theorem run__law_menu_unlike {n : Nat} {d0 : D} (h : D.allFz [d0] = true) : callF T (n + 1) f__law_menu_unlike [d0] = endF false (evBl T (callF T n) c__law_menu_unlike [some d0, none, none]) := callF_eq t__law_menu_unlike rfl h
theorem run__law_chain {n : Nat} {d0 d1 d2 : D} (h : D.allFz [d0, d1, d2] = true) : callF T (n + 1) f__law_chain [d0, d1, d2] = endF false (evBl T (callF T n) c__law_chain [some d0, some d1, some d2, none, none, none, none, none, none, none, none]) := callF_eq t__law_chain rfl h
theorem run__law_may_start {n : Nat} {d0 d1 d2 : D} (h : D.allFz [d0, d1, d2] = true) : callF T (n + 1) f__law_may_start [d0, d1, d2] = endF false (evBl T (callF T n) c__law_may_start [some d0, some d1, some d2, none, none]) := callF_eq t__law_may_start rfl h
theorem run__law_joined {n : Nat} {d0 d1 : D} (h : D.allFz [d0, d1] = true) : callF T (n + 1) f__law_joined [d0, d1] = endF false (evBl T (callF T n) c__law_joined [some d0, some d1, none, none, none, none, none, none, none, none, none, none, none, none]) := callF_eq t__law_joined rfl h
theorem run_web_parts {n : Nat} {d0 d1 d2 : D} (h : D.allFz [d0, d1, d2] = true) : callF T (n + 1) f_web_parts [d0, d1, d2] = endF false (evBl T (callF T n) c_web_parts [some d0, some d1, some d2, none, none, none]) := callF_eq t_web_parts rfl h
theorem run_Kept___init__ {n : Nat} {d1 d2 : D} (h : D.allFz [d1, d2] = true) : callF T (n + 1) f_Kept___init__ [(.obj true n_Kept []), d1, d2] = endF true (evBl T (callF T n) c_Kept___init__ [some (.obj true n_Kept []), some d1, some d2, none, none, none, none, none, none]) := callF_eq t_Kept___init__ rfl h
theorem run_Numbers___init__ {n : Nat} {d1 d2 : D} (h : D.allFz [d1, d2] = true) : callF T (n + 1) f_Numbers___init__ [(.obj true n_Numbers []), d1, d2] = endF true (evBl T (callF T n) c_Numbers___init__ [some (.obj true n_Numbers []), some d1, some d2, none, none, none]) := callF_eq t_Numbers___init__ rfl h
theorem run__law_copy {n : Nat} {d0 : D} (h : D.allFz [d0] = true) : callF T (n + 1) f__law_copy [d0] = endF false (evBl T (callF T n) c__law_copy [some d0, none]) := callF_eq t__law_copy rfl h
theorem run__law_pair {n : Nat} {d0 d1 : D} (h : D.allFz [d0, d1] = true) : callF T (n + 1) f__law_pair [d0, d1] = endF false (evBl T (callF T n) c__law_pair [some d0, some d1]) := callF_eq t__law_pair rfl h
theorem run_above_judging {n : Nat} {d0 d1 : D} (h : D.allFz [d0, d1] = true) : callF T (n + 1) f_above_judging [d0, d1] = endF false (evBl T (callF T n) c_above_judging [some d0, some d1, none, none, none, none, none, none]) := callF_eq t_above_judging rfl h
theorem run_below_judging {n : Nat} {d0 d1 : D} (h : D.allFz [d0, d1] = true) : callF T (n + 1) f_below_judging [d0, d1] = endF false (evBl T (callF T n) c_below_judging [some d0, some d1, none, none, none, none, none, none, none]) := callF_eq t_below_judging rfl h
theorem run_keeps {n : Nat} {d0 d1 d2 d3 : D} (h : D.allFz [d0, d1, d2, d3] = true) : callF T (n + 1) f_keeps [d0, d1, d2, d3] = endF false (evBl T (callF T n) c_keeps [some d0, some d1, some d2, some d3]) := callF_eq t_keeps rfl h
theorem run_breach {n : Nat} {d0 d1 d2 d3 : D} (h : D.allFz [d0, d1, d2, d3] = true) : callF T (n + 1) f_breach [d0, d1, d2, d3] = endF false (evBl T (callF T n) c_breach [some d0, some d1, some d2, some d3, none]) := callF_eq t_breach rfl h
theorem run__law_fails {n : Nat} {d0 d1 d2 d3 : D} (h : D.allFz [d0, d1, d2, d3] = true) : callF T (n + 1) f__law_fails [d0, d1, d2, d3] = endF false (evBl T (callF T n) c__law_fails [some d0, some d1, some d2, some d3, none, none, none]) := callF_eq t__law_fails rfl h
theorem run__law_still {n : Nat} {d0 : D} (h : D.allFz [d0] = true) : callF T (n + 1) f__law_still [d0] = endF false (evBl T (callF T n) c__law_still [some d0, none]) := callF_eq t__law_still rfl h
theorem run__law_table {n : Nat} {d0 d1 : D} (h : D.allFz [d0, d1] = true) : callF T (n + 1) f__law_table [d0, d1] = endF false (evBl T (callF T n) c__law_table [some d0, some d1, none, none, none]) := callF_eq t__law_table rfl h
theorem run__law_gain {n : Nat} {d0 d1 d2 : D} (h : D.allFz [d0, d1, d2] = true) : callF T (n + 1) f__law_gain [d0, d1, d2] = endF false (evBl T (callF T n) c__law_gain [some d0, some d1, some d2, none, none, none]) := callF_eq t__law_gain rfl h
theorem run_fitted {n : Nat} {d0 d1 d2 : D} (h : D.allFz [d0, d1, d2] = true) : callF T (n + 1) f_fitted [d0, d1, d2] = endF false (evBl T (callF T n) c_fitted [some d0, some d1, some d2, none, none, none, none]) := callF_eq t_fitted rfl h
theorem run_is_row {n : Nat} {d0 : D} (h : D.allFz [d0] = true) : callF T (n + 1) f_is_row [d0] = endF false (evBl T (callF T n) c_is_row [some d0]) := callF_eq t_is_row rfl h
theorem run_told_sizes {n : Nat} {d0 : D} (h : D.allFz [d0] = true) : callF T (n + 1) f_told_sizes [d0] = endF false (evBl T (callF T n) c_told_sizes [some d0, none, none, none, none]) := callF_eq t_told_sizes rfl h
theorem run_checked_sizes {n : Nat} {d0 d1 : D} (h : D.allFz [d0, d1] = true) : callF T (n + 1) f_checked_sizes [d0, d1] = endF false (evBl T (callF T n) c_checked_sizes [some d0, some d1, none]) := callF_eq t_checked_sizes rfl h
theorem run_first_apart {n : Nat} {d0 d1 d2 : D} (h : D.allFz [d0, d1, d2] = true) : callF T (n + 1) f_first_apart [d0, d1, d2] = endF false (evBl T (callF T n) c_first_apart [some d0, some d1, some d2, none, none, none, none, none, none]) := callF_eq t_first_apart rfl h
theorem run_told_pair {n : Nat} {d0 d1 : D} (h : D.allFz [d0, d1] = true) : callF T (n + 1) f_told_pair [d0, d1] = endF false (evBl T (callF T n) c_told_pair [some d0, some d1]) := callF_eq t_told_pair rfl h
theorem run_check_rank {n : Nat} {d0 d1 : D} (h : D.allFz [d0, d1] = true) : callF T (n + 1) f_check_rank [d0, d1] = endF false (evBl T (callF T n) c_check_rank [some d0, some d1]) := callF_eq t_check_rank rfl h
theorem run_check_number {n : Nat} {d0 d1 d2 : D} (h : D.allFz [d0, d1, d2] = true) : callF T (n + 1) f_check_number [d0, d1, d2] = endF false (evBl T (callF T n) c_check_number [some d0, some d1, some d2]) := callF_eq t_check_number rfl h
theorem run_check_table {n : Nat} {d0 d1 d2 d3 : D} (h : D.allFz [d0, d1, d2, d3] = true) : callF T (n + 1) f_check_table [d0, d1, d2, d3] = endF false (evBl T (callF T n) c_check_table [some d0, some d1, some d2, some d3, none, none, none]) := callF_eq t_check_table rfl h
theorem run_is_int {n : Nat} {d0 : D} (h : D.allFz [d0] = true) : callF T (n + 1) f_is_int [d0] = endF false (evBl T (callF T n) c_is_int [some d0]) := callF_eq t_is_int rfl h
theorem run_check_height {n : Nat} {d0 : D} (h : D.allFz [d0] = true) : callF T (n + 1) f_check_height [d0] = endF false (evBl T (callF T n) c_check_height [some d0]) := callF_eq t_check_height rfl h
theorem run_Web_top {n : Nat} {d0 : D} (h : D.allFz [d0] = true) : callF T (n + 1) f_Web_top [d0] = endF false (evBl T (callF T n) c_Web_top [some d0]) := callF_eq t_Web_top rfl h
theorem run_Web___getitem__ {n : Nat} {d0 d1 : D} (h : D.allFz [d0, d1] = true) : callF T (n + 1) f_Web___getitem__ [d0, d1] = endF false (evBl T (callF T n) c_Web___getitem__ [some d0, some d1]) := callF_eq t_Web___getitem__ rfl h
theorem run_Kept_top {n : Nat} {d0 : D} (h : D.allFz [d0] = true) : callF T (n + 1) f_Kept_top [d0] = endF false (evBl T (callF T n) c_Kept_top [some d0]) := callF_eq t_Kept_top rfl h
theorem run_Numbers___getitem__ {n : Nat} {d0 d1 : D} (h : D.allFz [d0, d1] = true) : callF T (n + 1) f_Numbers___getitem__ [d0, d1] = endF false (evBl T (callF T n) c_Numbers___getitem__ [some d0, some d1]) := callF_eq t_Numbers___getitem__ rfl h
end Lw
set_option Elab.async false
set_option linter.all false
set_option maxRecDepth 100000
set_option maxHeartbeats 4000000
namespace Lw
open PySem PySem.Spec PyProof.Rows L2 VS
abbrev rT (n : Nat) (f : Nat → Int) : D := .tup (ln n fun i => .int (f i))
abbrev rL (n : Nat) (f : Nat → Int) : D := .lst false (ln n fun i => .int (f i))
abbrev tT (h w : Nat) (f : Nat → Nat → Int) : D := .tup (ln h fun x => rT w (f x))
abbrev tL (h w : Nat) (f : Nat → Nat → Int) : D := .lst false (ln h fun x => rL w (f x))
theorem L_is_int {n : Nat} {i : Int} : callF T (n + 1) f_is_int [.int i] = .ok (.bl true) none := by
  rw [run_is_int (by simp)]; simp [c_is_int]
theorem L_is_rowL {n : Nat} {xs : List D} (h : D.allFz xs = true) : callF T (n + 1) f_is_row [.lst false xs] = .ok (.bl true) none := by
  rw [run_is_row (by simp [h])]; simp [c_is_row, h]
theorem L_is_rowT {n : Nat} {xs : List D} (h : D.allFz xs = true) : callF T (n + 1) f_is_row [.tup xs] = .ok (.bl true) none := by
  rw [run_is_row (by simp [h])]; simp [c_is_row, h]
theorem L_check_number {n : Nat} {s : List Nat} {i l : Int} (h : l ≤ i) : callF T (n + 2) f_check_number [.str s, .int i, .int l] = .ok (.int i) none := by
  rw [run_check_number (by simp)]; simp [c_check_number, L_is_int, Int.not_lt.mpr h]
theorem L_check_numberN {n : Nat} {s : List Nat} {i : Int} : callF T (n + 2) f_check_number [.str s, .int i, .non] = .ok (.int i) none := by
  rw [run_check_number (by simp)]; simp [c_check_number, L_is_int]
theorem L_check_height {n : Nat} {i : Int} (h : 0 ≤ i) : callF T (n + 2) f_check_height [.int i] = .ok (.int i) none := by
  rw [run_check_height (by simp)]; simp [c_check_height, L_is_int, Int.not_lt.mpr h]
abbrev webD (t : Nat) (sz : Nat → Nat) (u d : Nat → Nat → Nat → Int) : D := .obj false n_Web [.tup (ln (t + 1) fun i => .int (sz i)), .tup (ln t fun r => tT (sz r) (sz (r + 1)) (u r)), .tup (ln t fun r => tT (sz r) (sz (r + 1)) (d r))]
section
variable {t : Nat} {sz : Nat → Nat} {u d : Nat → Nat → Nat → Int} {n r : Nat}
theorem webFz : (webD t sz u d).isFz = true := by simp
theorem L_top : callF T (n + 1) f_Web_top [webD t sz u d] = .ok (.int t) none := by
  rw [run_Web_top (by simp)]; simp [c_Web_top]
theorem L_check_rank {i : Int} (h0 : 0 ≤ i) (h : i ≤ t) : callF T (n + 3) f_check_rank [webD t sz u d, .int i] = .ok (.int i) none := by
  rw [run_check_rank (by simp)]; simp [c_check_rank, L_check_height h0, L_top, Int.not_lt.mpr h]
end
end Lw
set_option Elab.async false
set_option linter.all false
set_option maxRecDepth 100000
set_option maxHeartbeats 4000000
namespace Lw
local macro_rules | `(tactic| trivial) => `(tactic| first | omega | (simp; done) | (simp; omega))
open PySem PySem.Spec PyProof.Rows L2 VS
/-- sums over the places between -/
def bel (sz : Nat → Nat) (u d : Nat → Nat → Nat → Int) : Nat → Nat → Nat → Int
  | 0, _, _ => 0
  | r + 1, x, z => (ln (sz r) fun w => d r w x * u r w z).sum
def abv (sz : Nat → Nat) (u d : Nat → Nat → Nat → Int) (r x z : Nat) : Int := (ln (sz (r + 1)) fun y => u r x y * d r z y).sum
structure Bnd (t : Nat) (sz : Nat → Nat) (u d : Nat → Nat → Nat → Int) : Prop where
  t : t ≤ 100
  sz : ∀ r, sz r ≤ 100
  u : ∀ r x y, -(2 ^ 64) < u r x y ∧ u r x y < 2 ^ 64
  d : ∀ r x y, -(2 ^ 64) < d r x y ∧ d r x y < 2 ^ 64
theorem bits1 {a b : Int} (h : -(2 ^ 64) < a ∧ a < 2 ^ 64) : bitsOk a b = true := decide_eq_true (.inl h)
section
variable {t : Nat} {sz : Nat → Nat} {u d : Nat → Nat → Nat → Int} {n r : Nat}
theorem L_below (h : r ≤ t) (B : Bnd t sz u d) : callF T (n + 4) f_below_judging [webD t sz u d, .int r] = .ok (tT (sz r) (sz r) (bel sz u d r)) none := by
  rw [run_below_judging (by simp)]
  have hr : sz r ≤ 100 := B.sz r
  cases r with
  | zero =>
    simp -implicitDefEqProofs -dsimp (disch := trivial) [c_below_judging, L_check_rank]
    rw [compC_run (fun _ => rT (sz 0) fun _ => 0)]
    · simp -implicitDefEqProofs -dsimp (disch := trivial) [show bel sz u d 0 = fun _ _ => 0 from rfl]
    · intro k hk
      simp -implicitDefEqProofs -dsimp (disch := trivial)
    · simp; omega
  | succ r =>
    have hr2 : sz r ≤ 100 := B.sz r
    have h0 : ¬ ((r : Int) + 1 = 0) := by omega
    simp -implicitDefEqProofs -dsimp (disch := trivial) [c_below_judging, L_check_rank, h0]
    rw [compC_run (fun w => .tup [rT (sz (r + 1)) (d r w), rT (sz (r + 1)) (u r w)])]
    · simp -implicitDefEqProofs -dsimp (disch := trivial)
      rw [compC_run (fun x => rT (sz (r + 1)) (bel sz u d (r + 1) x))]
      · simp -implicitDefEqProofs -dsimp (disch := trivial)
      · intro x hx
        simp -implicitDefEqProofs -dsimp (disch := trivial)
        rw [compC_run (fun z => .int (bel sz u d (r + 1) x z))]
        · simp -implicitDefEqProofs -dsimp (disch := trivial)
        · intro z hz
          simp -implicitDefEqProofs -dsimp (disch := trivial)
          rw [compC_run (fun w => .int (d r w x * u r w z))]
          · simp -implicitDefEqProofs -dsimp (disch := trivial) [bel]
          · intro w hw
            simp -implicitDefEqProofs -dsimp (disch := trivial) [binD_mul (bits1 (B.d _ _ _))]
          · simp; omega
        · simp; omega
      · simp; omega
    · intro k hk
      simp -implicitDefEqProofs -dsimp (disch := trivial)
    · simp; omega
theorem L_above (h : r < t) (B : Bnd t sz u d) : callF T (n + 4) f_above_judging [webD t sz u d, .int r] = .ok (tT (sz r) (sz r) (abv sz u d r)) none := by
  rw [run_above_judging (by simp)]
  have hr : sz r ≤ 100 := B.sz r
  have hr2 : sz (r + 1) ≤ 100 := B.sz (r + 1)
  have h0 : ¬ ((r : Int) = t) := by omega
  have h1 : ¬ (r = t) := by omega
  simp -implicitDefEqProofs -dsimp (disch := trivial) [c_above_judging, L_check_rank, L_top, h0, h1]
  rw [compC_run (fun x => rT (sz r) (abv sz u d r x))]
  · simp -implicitDefEqProofs -dsimp (disch := trivial)
  · intro x hx
    simp -implicitDefEqProofs -dsimp (disch := trivial)
    rw [compC_run (fun z => .int (abv sz u d r x z))]
    · simp -implicitDefEqProofs -dsimp (disch := trivial)
    · intro z hz
      simp -implicitDefEqProofs -dsimp (disch := trivial)
      rw [compC_run (fun y => .int (u r x y * d r z y))]
      · simp -implicitDefEqProofs -dsimp (disch := trivial) [abv]
      · intro w hw
        simp -implicitDefEqProofs -dsimp (disch := trivial) [binD_mul (bits1 (B.u _ _ _))]
      · simp; omega
    · simp; omega
  · simp; omega
end
/-- the first place where two tables differ -/
def apart (m : Nat) (over due : Nat → Nat → Int) : Option (Nat × Nat) := (List.range m).findSome? fun x => (List.range m).findSome? fun z => if over x z ≠ due x z then some (x, z) else none
def pairD (o : Option (Nat × Nat)) : D := match o with
  | none => .non
  | some p => .tup [.int p.1, .int p.2]
def dueT (q r : Int) (under : Nat → Nat → Int) (x z : Nat) : Int := q * under x z + if x = z then r else 0
def apQ (over due : Nat → Nat → Int) (x z : Nat) : Option D := if over x z ≠ due x z then some (.tup [.int x, .int z]) else none
theorem pairD_eq {m : Nat} {over due : Nat → Nat → Int} : pairD (apart m over due) = ((List.range m).findSome? fun x => (List.range m).findSome? fun z => apQ over due x z).getD .non := by
  have e : pairD (apart m over due) = ((apart m over due).map fun p => (.tup [.int p.1, .int p.2] : D)).getD .non := by cases apart m over due <;> rfl
  rw [e]
  unfold apart
  rw [findSome_map]
  congr 2
  funext x
  rw [findSome_map]
  congr 1
  funext z
  unfold apQ
  split <;> rfl
theorem L_first_apart {n m : Nat} {over under : Nat → Nat → Int} {q r : Int} (hm : m ≤ 100) (hq : -(2 ^ 64) < q ∧ q < 2 ^ 64) : callF T (n + 1) f_first_apart [.tup [tT m m under, tT m m over], .int q, .int r] = .ok (pairD (apart m over (dueT q r under))) none := by
  rw [run_first_apart (by simp), pairD_eq]
  simp -implicitDefEqProofs -dsimp (disch := trivial) [c_first_apart]
  generalize hr : forC _ _ _ _ _ _ _ = res
  have key := forC_find hr (fun e => ∃ a b c d, e = [some (D.tup [tT m m under, tT m m over]), some (D.int q), some (D.int r), some (tT m m under), some (tT m m over), a, b, c, d]) (fun x => (List.range m).findSome? fun z => apQ over (dueT q r under) x z) ⟨_, _, _, _, rfl⟩ ?_
  · rcases fnd_cases key with ⟨h1, e, h2 | h2, _, _, _, _, rfl⟩ | ⟨d, e, h1, h2⟩
    · rw [h1, h2]; simp
    · exact absurd (hr.trans h2) (forL_nct _ _ _)
    · rw [h1, h2]; simp
  · rintro x _ hx ⟨_, _, _, _, rfl⟩
    simp -implicitDefEqProofs -dsimp (disch := trivial)
    generalize hr2 : forC _ _ _ _ _ _ _ = res2
    have key2 := forC_find hr2 (fun e => ∃ c d, e = [some (D.tup [tT m m under, tT m m over]), some (D.int q), some (D.int r), some (tT m m under), some (tT m m over), some (.int x), some (rT m (over x)), c, d]) (fun z => apQ over (dueT q r under) x z) ⟨_, _, rfl⟩ ?_
    · rcases fnd_cases key2 with ⟨h1, e, h2 | h2, _, _, rfl⟩ | ⟨d, e, h1, h2⟩
      · rw [h1, h2]; simp
      · exact absurd (hr2.trans h2) (forL_nct _ _ _)
      · rw [h1, h2]; simp
    · rintro z _ hz ⟨_, _, rfl⟩
      have hb := binD_mul (bits1 (b := under x z) hq)
      have hp : apQ over (dueT q r under) x z = if over x z = dueT q r under x z then none else some (.tup [.int x, .int z]) := by unfold apQ; split <;> simp_all
      rw [hp]
      clear hr hr2
      by_cases hxz : x = z
      · subst hxz
        have e2 : dueT q r under x x = q * under x x + r := by unfold dueT; rw [if_pos rfl]
        by_cases hc : over x x = q * under x x + r
        · rw [e2, if_pos hc]
          simp -implicitDefEqProofs -dsimp (disch := trivial) [hb, hc]
        · rw [e2, if_neg hc]
          simp -implicitDefEqProofs -dsimp (disch := trivial) [hb, hc]
      · have e2 : dueT q r under x z = q * under x z := by unfold dueT; rw [if_neg hxz, Int.add_zero]
        have e3 : ¬ (x : Int) = z := by omega
        by_cases hc : over x z = q * under x z
        · rw [e2, if_pos hc]
          simp -implicitDefEqProofs -dsimp (disch := trivial) [hb, hc, e3]
        · rw [e2, if_neg hc]
          simp -implicitDefEqProofs -dsimp (disch := trivial) [hb, hc, e3]
section
variable {t : Nat} {sz : Nat → Nat} {u d : Nat → Nat → Nat → Int} {n r : Nat}
theorem L_breach {q s : Int} (h : r < t) (B : Bnd t sz u d) (h0 : 0 ≤ q) (hq : q < 2 ^ 64) : callF T (n + 5) f_breach [webD t sz u d, .int r, .int q, .int s] = .ok (pairD (apart (sz r) (abv sz u d r) (dueT q s (bel sz u d r)))) none := by
  rw [run_breach (by simp)]
  have hr : sz r ≤ 100 := B.sz r
  simp -implicitDefEqProofs -dsimp (disch := trivial) [c_breach, L_check_rank, L_check_number, L_check_numberN, L_above h B, L_below (Nat.le_of_lt h) B, L_first_apart hr (show -(2 ^ 64) < q ∧ q < 2 ^ 64 by omega)]
theorem L_keeps {q s : Int} (h : r < t) (B : Bnd t sz u d) (h0 : 0 ≤ q) (hq : q < 2 ^ 64) : callF T (n + 6) f_keeps [webD t sz u d, .int r, .int q, .int s] = .ok (.bl (apart (sz r) (abv sz u d r) (dueT q s (bel sz u d r))).isNone) none := by
  rw [run_keeps (by simp)]
  simp -implicitDefEqProofs -dsimp (disch := trivial) [c_keeps, L_breach h B h0 hq]
  cases apart (sz r) (abv sz u d r) (dueT q s (bel sz u d r)) <;> simp [pairD]
end
end Lw
set_option Elab.async false
set_option linter.all false
set_option maxRecDepth 100000
set_option maxHeartbeats 4000000
namespace Lw
local macro_rules | `(tactic| trivial) => `(tactic| first | omega | (simp; done) | (simp; omega))
open PySem PySem.Spec PyProof.Rows L2 VS
theorem L_check_table {n h w : Nat} {f : Nat → Nat → Int} {k : Int} {s : List Nat} (hh : h ≤ 100) (hw : w ≤ 100) (hf : ∀ x y, 0 ≤ f x y) : callF T (n + 2) f_check_table [tL h w f, .int k, .str s, .int 0] = .ok (tT h w f) none := by
  rw [run_check_table (by simp)]
  simp -implicitDefEqProofs -dsimp (disch := trivial) [c_check_table, L_is_rowL]
  generalize hr : forC _ _ _ _ _ _ _ = res
  have key := forC_run hr (fun x e => ∃ a b, e = [some (tL h w f), some (.int k), some (.str s), some (.int 0), some (.lst true (ln x fun x => rT w (f x))), a, b]) ⟨_, _, rfl⟩ ?_
  · obtain ⟨_, rfl, _, _, rfl⟩ := key
    simp -implicitDefEqProofs -dsimp (disch := trivial)
  · rintro x _ hx ⟨_, _, rfl⟩
    clear hr
    simp -implicitDefEqProofs -dsimp (disch := trivial) [L_is_rowL]
    generalize hr : forC _ _ _ _ _ _ _ = res2
    have key := forC_run hr (fun y e => ∃ b, e = [some (tL h w f), some (.int k), some (.str s), some (.int 0), some (.lst true (ln x fun x => rT w (f x))), some (rL w (f x)), b]) ⟨_, rfl⟩ ?_
    · obtain ⟨_, rfl, _, rfl⟩ := key
      simp -implicitDefEqProofs -dsimp (disch := trivial) [ln_succ]
    · rintro y _ hy ⟨_, rfl⟩
      simp -implicitDefEqProofs -dsimp (disch := trivial) [L_is_int, Int.not_lt.mpr (hf x y)]
end Lw
set_option Elab.async false
set_option linter.all false
set_option maxRecDepth 100000
set_option maxHeartbeats 4000000
namespace Lw
local macro_rules | `(tactic| trivial) => `(tactic| first | omega | (simp; done) | (simp; omega))
open PySem PySem.Spec PyProof.Rows L2 VS
abbrev szL (t : Nat) (sz : Nat → Nat) : D := .lst false (ln (t + 1) fun i => .int (sz i))
abbrev tbL (t : Nat) (sz : Nat → Nat) (u : Nat → Nat → Nat → Int) : D := .lst false (ln t fun r => tL (sz r) (sz (r + 1)) (u r))
abbrev szT (t : Nat) (sz : Nat → Nat) : D := .tup (ln (t + 1) fun i => .int (sz i))
abbrev tbT (t : Nat) (sz : Nat → Nat) (u : Nat → Nat → Nat → Int) : D := .tup (ln t fun r => tT (sz r) (sz (r + 1)) (u r))
section
variable {t : Nat} {sz : Nat → Nat} {u d : Nat → Nat → Nat → Int} {n r : Nat}
theorem L_checked_sizes (ht : t ≤ 100) : callF T (n + 2) f_checked_sizes [szL t sz, .int t] = .ok (szT t sz) none := by
  rw [run_checked_sizes (by simp)]
  simp -implicitDefEqProofs -dsimp (disch := trivial) [c_checked_sizes, L_is_rowL]
  generalize hr : forC _ _ _ _ _ _ _ = res
  have key := forC_run hr (fun x e => ∃ a, e = [some (szL t sz), some (.int t), a]) ⟨_, rfl⟩ ?_
  · obtain ⟨_, rfl, _, rfl⟩ := key
    simp -implicitDefEqProofs -dsimp (disch := trivial)
  · rintro x _ hx ⟨_, rfl⟩
    simp -implicitDefEqProofs -dsimp (disch := trivial) [L_is_int]
theorem L_fitted {s : List Nat} (ht : t ≤ 100) (hs : ∀ r, sz r ≤ 100) (hu : ∀ r x y, 0 ≤ u r x y) : callF T (n + 3) f_fitted [tbL t sz u, .str s, szT t sz] = .ok (tbT t sz u) none := by
  rw [run_fitted (by simp)]
  simp -implicitDefEqProofs -dsimp (disch := trivial) [c_fitted]
  generalize hr : forC _ _ _ _ _ _ _ = res
  have key := forC_run hr (fun x e => ∃ a b, e = [some (tbL t sz u), some (.str s), some (szT t sz), some (.lst true (ln x fun r => tT (sz r) (sz (r + 1)) (u r))), a, b, none]) ⟨_, _, rfl⟩ ?_
  · obtain ⟨_, rfl, _, _, rfl⟩ := key
    simp -implicitDefEqProofs -dsimp (disch := trivial)
  · rintro r _ hx ⟨_, _, rfl⟩
    clear hr
    have h1 := hs r
    have h2 := hs (r + 1)
    simp -implicitDefEqProofs -dsimp (disch := trivial) [L_check_table (hs r) (hs (r + 1)) (hu r)]
    rw [compC_run (fun _ => .bl false)]
    · simp -implicitDefEqProofs -dsimp (disch := trivial) [ln_succ, ln_mem]
    · intro k hk
      simp -implicitDefEqProofs -dsimp (disch := trivial)
    · simp; omega
theorem L_web_parts (ht : t ≤ 100) (hs : ∀ r, sz r ≤ 100) (hu : ∀ r x y, 0 ≤ u r x y) (hd : ∀ r x y, 0 ≤ d r x y) : callF T (n + 4) f_web_parts [tbL t sz u, tbL t sz d, szL t sz] = .ok (.tup [szT t sz, tbT t sz u, tbT t sz d]) none := by
  rw [run_web_parts (by simp)]
  simp -implicitDefEqProofs -dsimp (disch := trivial) [c_web_parts, L_is_rowL, L_checked_sizes ht, L_fitted ht hs hu, L_fitted ht hs hd]
theorem L_Web (ht : t ≤ 100) (hs : ∀ r, sz r ≤ 100) (hu : ∀ r x y, 0 ≤ u r x y) (hd : ∀ r x y, 0 ≤ d r x y) : callF T (n + 5) f_Web___init__ [.obj true n_Web [], tbL t sz u, tbL t sz d, szL t sz] = .ok .non (some (.obj true n_Web [szT t sz, tbT t sz u, tbT t sz d])) := by
  rw [run_Web___init__ (by simp)]
  simp -implicitDefEqProofs -dsimp (disch := trivial) [c_Web___init__, L_web_parts ht hs hu hd]
end
end Lw
set_option Elab.async false
set_option linter.all false
set_option maxRecDepth 100000
set_option maxHeartbeats 4000000
namespace Lw
local macro_rules | `(tactic| trivial) => `(tactic| first | omega | (simp; done) | (simp; omega))
open PySem PySem.Spec PyProof.Rows L2 VS
abbrev prD (p : Int × Int) : D := .tup [.int p.1, .int p.2]
abbrev prL (m : Nat) (p : Nat → Int × Int) : D := .lst false (ln m fun i => prD (p i))
abbrev numD (m : Nat) (p : Nat → Int × Int) : D := .obj false n_Numbers [.tup [.int 1, .int 1], .tup (ln m fun i => prD (p i))]
/-- the pair of a rank -/
def pairAt (m : Nat) (p : Nat → Int × Int) (k : Nat) : Int × Int := if k < m then p k else (1, 1)
section
variable {n m : Nat} {p : Nat → Int × Int}
theorem L_told_pair {a b k : Int} (h : 0 ≤ a) : callF T (n + 2) f_told_pair [.tup [.int a, .int b], .int k] = .ok (.tup [.int a, .int b]) none := by
  rw [run_told_pair (by simp)]
  simp -implicitDefEqProofs -dsimp (disch := trivial) [c_told_pair, L_is_rowT, L_is_int, Int.not_lt.mpr h]
theorem L_Numbers (hm : m ≤ 100) (hp : ∀ i, i < m → 0 ≤ (p i).1) : ∃ m', m' ≤ m ∧ (∀ k, pairAt m' p k = pairAt m p k) ∧ callF T (n + 3) f_Numbers___init__ [.obj true n_Numbers [], prL m p, .tup [.int 1, .int 1]] = .ok .non (some (.obj true n_Numbers [.tup [.int 1, .int 1], .tup (ln m' fun i => prD (p i))])) := by
  rw [run_Numbers___init__ (by simp)]
  simp -implicitDefEqProofs -dsimp (disch := trivial) [c_Numbers___init__, L_is_rowL]
  rw [compC_run (fun i => prD (p i))]
  · simp -implicitDefEqProofs -dsimp (disch := trivial) [L_told_pair]
    generalize hr : whB _ _ _ _ _ = res
    have key := whB_run hr (fun k e => e = [some (.obj true n_Numbers [.tup [.int 1, .int 1]]), some (prL m p), some (.tup [.int 1, .int 1]), some (.lst true (ln k fun i => prD (p i))), none, none] ∧ k ≤ m ∧ ∀ j, pairAt k p j = pairAt m p j) (fun e => ∃ k, e = [some (.obj true n_Numbers [.tup [.int 1, .int 1]]), some (prL m p), some (.tup [.int 1, .int 1]), some (.lst true (ln k fun i => prD (p i))), none, none] ∧ k ≤ m ∧ ∀ j, pairAt k p j = pairAt m p j) m (by omega) ⟨rfl, Nat.le_refl _, fun _ => rfl⟩ ?_
    · obtain ⟨_, rfl, k, rfl, hk, hj⟩ := key
      refine ⟨k, hk, hj, ?_⟩
      simp -implicitDefEqProofs -dsimp (disch := trivial)
    · rintro k _ ⟨rfl, hk, hj⟩
      clear hr
      cases k with
      | zero =>
        simp -implicitDefEqProofs -dsimp (disch := trivial)
        exact ⟨0, rfl, hk, hj⟩
      | succ k =>
        simp -implicitDefEqProofs -dsimp (disch := trivial)
        by_cases hc : (p k).1 = 1 ∧ (p k).2 = 1
        · rw [if_pos hc]
          refine ⟨k, by omega, rfl, by omega, fun j => ?_⟩
          rw [← hj]
          unfold pairAt
          by_cases h1 : j < k
          · rw [if_pos h1, if_pos (by omega)]
          · rw [if_neg h1]
            by_cases h2 : j = k
            · subst h2
              rw [if_pos (by omega)]
              exact (Prod.ext hc.1 hc.2).symm
            · rw [if_neg (by omega)]
        · rw [if_neg hc]
          exact ⟨k + 1, rfl, hk, hj⟩
  · intro k hk
    simp -implicitDefEqProofs -dsimp (disch := trivial) [L_told_pair (hp k hk)]
  · simp; omega
theorem L_num_at {k : Nat} : callF T (n + 2) f_Numbers___getitem__ [numD m p, .int k] = .ok (prD (pairAt m p k)) none := by
  rw [run_Numbers___getitem__ (by simp)]
  unfold pairAt
  by_cases h : k < m
  · have h2 : (k : Int) < m := by omega
    simp -implicitDefEqProofs -dsimp (disch := trivial) [c_Numbers___getitem__, L_is_int, h, h2]
  · have h2 : ¬ (k : Int) < m := by omega
    simp -implicitDefEqProofs -dsimp (disch := trivial) [c_Numbers___getitem__, L_is_int, h, h2]
/-- which rank fails first, where -/
def keptAt (sz : Nat → Nat) (u d : Nat → Nat → Nat → Int) (m : Nat) (p : Nat → Int × Int) (r : Nat) : Option (Nat × Nat) := apart (sz r) (abv sz u d r) (dueT (pairAt m p r).1 (pairAt m p r).2 (bel sz u d r))
variable {t : Nat} {sz : Nat → Nat} {u d : Nat → Nat → Nat → Int} {r : Nat}
def kEnv (t : Nat) (sz : Nat → Nat) (u d : Nat → Nat → Nat → Int) (m : Nat) (p : Nat → Int × Int) (r : Nat) (a b c e : Option D) : VE :=
  [some (.obj true n_Kept [webD t sz u d, numD m p, szT t sz]), some (webD t sz u d), some (numD m p), a, some (.lst true (ln r fun r => tT (sz r) (sz r) (bel sz u d r))), some (.lst true (ln r fun r => tT (sz r) (sz r) (abv sz u d r))), b, c, e]
def c_Kept_body : B := match c_Kept___init__ with
  | .cons _ (.cons _ (.cons _ (.cons _ (.cons (.forS _ _ _ b) _)))) => b
  | _ => .nil
theorem kept_step {r : Nat} (hr : r < t) (B : Bnd t sz u d) (hm : m ≤ 100) (hp : ∀ i, 0 ≤ (pairAt m p i).1 ∧ (pairAt m p i).1 < 2 ^ 64) {a b c e : Option D} :
    (keptAt sz u d m p r = none → nxI (fstepB T (callF T (n + 4)) c_Kept_body (setT (kEnv t sz u d m p r a b c e) [3] false (.int r))) fun v => ∃ a b c e, fzO a = true ∧ v = kEnv t sz u d m p (r + 1) a b c e) ∧
    ∀ x z, keptAt sz u d m p r = some (x, z) → exI (fstepB T (callF T (n + 4)) c_Kept_body (setT (kEnv t sz u d m p r a b c e) [3] false (.int r))) n_NotKept [.int r, .int x, .int z] := by
  have ht := B.t
  have hsz := B.sz r
  have h1 := hp r
  have hF := fun n => L_first_apart (n := n) (over := abv sz u d r) (under := bel sz u d r) (q := (pairAt m p r).1) (r := (pairAt m p r).2) hsz ⟨by omega, h1.2⟩
  constructor
  · intro hk
    unfold keptAt at hk
    unfold kEnv
    simp -implicitDefEqProofs -dsimp (disch := trivial) [c_Kept_body, c_Kept___init__, L_below (Nat.le_of_lt hr) B, L_above hr B, L_num_at, hF, hk, pairD]
    exact ⟨_, rfl, rfl, ln_succ.symm, ln_succ.symm⟩
  · intro x z hk
    unfold keptAt at hk
    unfold kEnv
    simp -implicitDefEqProofs -dsimp (disch := trivial) [c_Kept_body, c_Kept___init__, L_below (Nat.le_of_lt hr) B, L_above hr B, L_num_at, hF, hk, pairD]
theorem L_Kept_ok (B : Bnd t sz u d) (hm : m ≤ 100) (hp : ∀ i, 0 ≤ (pairAt m p i).1 ∧ (pairAt m p i).1 < 2 ^ 64) (hk : ∀ r, r < t → keptAt sz u d m p r = none) :
    ∃ fl, callF T (n + 5) f_Kept___init__ [.obj true n_Kept [], webD t sz u d, numD m p] = .ok .non (some (.obj true n_Kept fl)) := by
  rw [run_Kept___init__ (by simp)]
  have ht := B.t
  simp -implicitDefEqProofs -dsimp (disch := trivial) [c_Kept___init__, L_top]
  generalize hr : forC _ _ _ _ _ _ _ = res
  have key := forC_run hr (fun r v => ∃ a b c e, fzO a = true ∧ v = kEnv t sz u d m p r a b c e) ⟨_, _, _, _, by rfl, rfl⟩ ?_
  · obtain ⟨_, rfl, a, b, c, e, ha, rfl⟩ := key
    have hb := L_below (n := n) (sz := sz) (u := u) (d := d) (Nat.le_refl t) B
    simp -implicitDefEqProofs -dsimp (disch := trivial) [kEnv, L_top, hb]
    rw [compC_run (fun k => prD (pairAt m p k))]
    · simp -implicitDefEqProofs -dsimp (disch := trivial) [ha]
    · intro k hk
      simp -implicitDefEqProofs -dsimp (disch := trivial) [L_num_at]
    · simp; omega
  · rintro r _ hx ⟨a, b, c, e, _, rfl⟩
    exact (kept_step hx B hm hp).1 (hk r hx)
theorem L_Kept_ex {r x z : Nat} (B : Bnd t sz u d) (hm : m ≤ 100) (hp : ∀ i, 0 ≤ (pairAt m p i).1 ∧ (pairAt m p i).1 < 2 ^ 64) (hr : r < t) (hk : ∀ k, k < r → keptAt sz u d m p k = none) (hr2 : keptAt sz u d m p r = some (x, z)) :
    callF T (n + 5) f_Kept___init__ [.obj true n_Kept [], webD t sz u d, numD m p] = .ex n_NotKept [.int r, .int x, .int z] := by
  rw [run_Kept___init__ (by simp)]
  have ht := B.t
  simp -implicitDefEqProofs -dsimp (disch := trivial) [c_Kept___init__, L_top]
  generalize hr : forC _ _ _ _ _ _ _ = res
  have key := forC_stop hr (fun r v => ∃ a b c e, fzO a = true ∧ v = kEnv t sz u d m p r a b c e) (fun q => exI q n_NotKept [.int r, .int x, .int z]) ⟨_, _, _, _, by rfl, rfl⟩ r (by assumption) ?_ (fun _ h => stop_ex h) ?_
  · cases res <;> first | exact key.elim | (obtain ⟨rfl, rfl⟩ := key; simp)
  · rintro k _ hx ⟨a, b, c, e, _, rfl⟩
    exact (kept_step (by omega) B hm hp).1 (hk k hx)
  · rintro _ ⟨a, b, c, e, _, rfl⟩
    exact (kept_step (by assumption) B hm hp).2 x z hr2
end
end Lw
set_option Elab.async false
set_option linter.all false
set_option maxRecDepth 100000
set_option maxHeartbeats 4000000
namespace Lw
local macro_rules | `(tactic| trivial) => `(tactic| first | omega | (simp; done) | (simp; omega))
open PySem PySem.Spec PyProof.Rows L2 VS
theorem L_take {n : Nat} {xs : List D} {k : Int} (h : isI xs) (hk : 0 < k) : ∃ v ys, 0 ≤ v ∧ v < k ∧ isI ys ∧ callF T (n + 1) f__law_take [.lst true xs, .int k] = .ok (.int v) (some (.lst true ys)) := by
  rw [run__law_take (by simp)]
  rcases isI_cases h with rfl | ⟨ys, i, rfl, hy⟩
  · exact ⟨0, [], by omega, hk, isI_nil, by simp -implicitDefEqProofs -dsimp (disch := trivial) [c__law_take]⟩
  · refine ⟨i % k, ys, Int.emod_nonneg _ (by omega), Int.emod_lt_of_pos _ hk, hy, ?_⟩
    have h0 : ¬ ((ys.length : Int) + 1 = 0) := by omega
    simp -implicitDefEqProofs -dsimp (disch := trivial) [c__law_take, binD_mod hk, h0]
def dr60 : B := match c__law_draws with
  | .cons _ (.cons (.forS _ _ _ (.cons _ (.cons _ (.cons (.ifS _ (.cons (.forS _ _ _ b) _) _) _)))) _) => b
  | _ => .nil
def dr6 : B := match c__law_draws with
  | .cons _ (.cons (.forS _ _ _ (.cons _ (.cons _ (.cons (.ifS _ _ (.cons _ (.cons (.forS _ _ _ b) _))) _)))) _) => b
  | _ => .nil
theorem dr60_run {n x : Nat} {s : D} {xs : List D} {cell : Int} {a b : Option D} {res : Fl} (hx : x < 63) (hi : isI xs) (hl : xs.length ≤ 60 * x) (hr : forC T (callF T n) [4] false dr60 (ln 60 fun k => .int k) [some s, some (.lst true xs), some (.int x), some (.int cell), a, b] = res) :
    ∃ xs c a b, isI xs ∧ xs.length ≤ 60 * (x + 1) ∧ res = .nx [some s, some (.lst true xs), some (.int x), some (.int c), a, b] := by
  have d1 := fun a : Int => binD_mod (a := a) (b := 24) (by omega)
  have d4 := fun a : Int => binD_fdiv (a := a) (b := 24) (by omega) (by omega)
  have key := forC_run hr (fun y e => ∃ xs c a b, isI xs ∧ xs.length ≤ 60 * x + y ∧ e = [some s, some (.lst true xs), some (.int x), some (.int c), a, b]) ⟨_, _, _, _, hi, by omega, rfl⟩ ?_
  · obtain ⟨_, rfl, xs, c, a, b, hx, hl, rfl⟩ := key
    exact ⟨_, _, _, _, hx, by omega, rfl⟩
  · rintro y _ hy ⟨xs, c, a, b, hi, hl, rfl⟩
    clear hr
    by_cases h3 : 0 < c
    · simp -implicitDefEqProofs -dsimp (disch := trivial) [dr60, c__law_draws, h3, d1, d4]
      exact ⟨isI_snoc hi, by omega⟩
    · simp -implicitDefEqProofs -dsimp (disch := trivial) [dr60, c__law_draws, h3]
      exact ⟨hi, by omega⟩
theorem dr6_run {n x : Nat} {s : D} {xs : List D} {cell : Int} {v : Int} {a : Option D} {res : Fl} (hx : x < 63) (hi : isI xs) (hl : xs.length ≤ 60 * x) (hv : 0 ≤ v ∧ v < 2147483647) (hr : forC T (callF T n) [4] false dr6 (ln 6 fun k => .int k) [some s, some (.lst true xs), some (.int x), some (.int cell), a, some (.int v)] = res) :
    ∃ xs c a b, isI xs ∧ xs.length ≤ 60 * (x + 1) ∧ res = .nx [some s, some (.lst true xs), some (.int x), some (.int c), a, b] := by
  have m3 := fun a : Int => binD_mul2 (a := a) (b := 30271) (by omega)
  have d3 := fun a : Int => binD_mod (a := a) (b := 2147483563) (by omega)
  have key := forC_run hr (fun y e => ∃ xs a v, isI xs ∧ xs.length ≤ 60 * x + y ∧ (0 ≤ v ∧ v < 2147483647) ∧ e = [some s, some (.lst true xs), some (.int x), some (.int cell), a, some (.int v)]) ⟨_, _, _, hi, by omega, hv, rfl⟩ ?_
  · obtain ⟨_, rfl, xs, a, v, hx, hl, _, rfl⟩ := key
    exact ⟨_, _, _, _, hx, by omega, rfl⟩
  · rintro y _ hy ⟨xs, a, v, hi, hl, hv, rfl⟩
    clear hr
    have m := binD_mul1 (a := v) (b := v) (by omega)
    simp -implicitDefEqProofs -dsimp (disch := trivial) [dr6, c__law_draws, m, m3, d3]
    refine ⟨_, isI_snoc hi, by simp; omega, _, _, ?_, rfl, rfl, rfl⟩
    exact ⟨Int.emod_nonneg _ (by omega), by have := Int.emod_lt_of_pos (v * v + ↑y * 30271 + ↑x + 5) (show (0 : Int) < 2147483563 by omega); omega⟩
theorem L_draws {n k : Nat} {f : Nat → Int} (hk : k ≤ 63) : ∃ xs, isI xs ∧ callF T (n + 1) f__law_draws [.lst false (ln k fun i => .int (f i))] = .ok (.lst true xs) none := by
  rw [run__law_draws (by simp)]
  have hmin : (if (63 : Int) < k then (63 : Int) else k) = k := by rw [if_neg (by omega)]
  simp -implicitDefEqProofs -dsimp (disch := trivial) [c__law_draws, hmin]
  generalize hr : forC _ _ _ _ _ _ _ = res
  have key := forC_run hr (fun x e => ∃ xs a b c d, isI xs ∧ xs.length ≤ 60 * x ∧ e = [some (.lst false (ln k fun i => .int (f i))), some (.lst true xs), a, b, c, d]) ⟨_, _, _, _, _, isI_nil, by simp, rfl⟩ ?_
  · obtain ⟨_, rfl, xs, a, b, c, d, hx, hl, rfl⟩ := key
    refine ⟨xs.reverse, isI_rev hx, ?_⟩
    simp -implicitDefEqProofs -dsimp (disch := trivial) [revA_some (isI_fz hx)]
  · rintro x _ hx ⟨xs, a, b, c, d, hi, hl, rfl⟩
    clear hr
    have r60 : rangeD 0 60 = ln 60 fun k => .int k := rangeD_nat 60
    have r6 : rangeD 0 6 = ln 6 fun k => .int k := rangeD_nat 6
    have m1 := fun a : Int => binD_mul2 (a := a) (b := 52361) (by omega)
    have m2 := fun a : Int => binD_mul2 (a := a) (b := 71249) (by omega)
    have m3 := fun a : Int => binD_mul2 (a := a) (b := 30271) (by omega)
    have d1 := fun a : Int => binD_mod (a := a) (b := 24) (by omega)
    have d2 := fun a : Int => binD_mod (a := a) (b := 2147483647) (by omega)
    have d3 := fun a : Int => binD_mod (a := a) (b := 2147483563) (by omega)
    have d4 := fun a : Int => binD_fdiv (a := a) (b := 24) (by omega) (by omega)
    have hv : ∀ c : Int, 0 ≤ (c * 52361 + ↑x * 71249 + 3) % 2147483647 ∧ (c * 52361 + ↑x * 71249 + 3) % 2147483647 < 2147483647 := fun c => ⟨Int.emod_nonneg _ (by omega), Int.emod_lt_of_pos _ (by omega)⟩
    by_cases h1 : f x < 0
    · by_cases h2 : 1000000000000000000 ≤ 1 - f x
      · simp -implicitDefEqProofs -dsimp (disch := trivial) [pow_18, h1, h2, r60]
        generalize hr : forC _ _ _ _ _ _ _ = res
        obtain ⟨xs, c, a, b, hi, hl, rfl⟩ := dr60_run (by omega) hi hl hr
        simp -implicitDefEqProofs -dsimp (disch := trivial)
        exact ⟨hi, hl⟩
      · simp -implicitDefEqProofs -dsimp (disch := trivial) [pow_18, h1, h2, r6, m1, m2, d2]
        generalize hr : forC _ _ _ _ _ _ _ = res
        obtain ⟨xs, c, a, b, hi, hl, rfl⟩ := dr6_run (by omega) hi hl (hv _) hr
        simp -implicitDefEqProofs -dsimp (disch := trivial)
        exact ⟨hi, hl⟩
    · by_cases h2 : 1000000000000000000 ≤ f x
      · simp -implicitDefEqProofs -dsimp (disch := trivial) [pow_18, h1, h2, r60]
        generalize hr : forC _ _ _ _ _ _ _ = res
        obtain ⟨xs, c, a, b, hi, hl, rfl⟩ := dr60_run (by omega) hi hl hr
        simp -implicitDefEqProofs -dsimp (disch := trivial)
        exact ⟨hi, hl⟩
      · simp -implicitDefEqProofs -dsimp (disch := trivial) [pow_18, h1, h2, r6, m1, m2, d2]
        generalize hr : forC _ _ _ _ _ _ _ = res
        obtain ⟨xs, c, a, b, hi, hl, rfl⟩ := dr6_run (by omega) hi hl (hv _) hr
        simp -implicitDefEqProofs -dsimp (disch := trivial)
        exact ⟨hi, hl⟩
end Lw
set_option Elab.async false
set_option linter.all false
set_option maxRecDepth 100000
set_option maxHeartbeats 4000000
namespace Lw
local macro_rules | `(tactic| trivial) => `(tactic| first | omega | (simp; done) | (simp; omega))
open PySem PySem.Spec PyProof.Rows L2 VS
/-- gains from start, k steps -/
def gainF (m : Nat) (p : Nat → Int × Int) (s : Nat) : Nat → Int
  | 0 => 0
  | k + 1 => (pairAt m p (s + k)).1 * gainF m p s k + (pairAt m p (s + k)).2
section
variable {n m : Nat} {p : Nat → Int × Int}
theorem L_pair {k : Int} (h0 : 0 ≤ k) : callF T (n + 1) f__law_pair [prL m p, .int k] = .ok (prD (pairAt m p k.toNat)) none := by
  rw [run__law_pair (by simp)]
  unfold pairAt
  by_cases h : k < m
  · have h2 : k.toNat < m := by omega
    simp -implicitDefEqProofs -dsimp (disch := trivial) [c__law_pair, h, h2]
  · have h2 : ¬ k.toNat < m := by omega
    simp -implicitDefEqProofs -dsimp (disch := trivial) [c__law_pair, h, h2]
theorem L_gain {s k : Nat} {kk : Int} (hk : k ≤ 100) (e : kk = k) (hp : ∀ i, 0 ≤ (pairAt m p i).1 ∧ (pairAt m p i).1 < 2 ^ 64) : callF T (n + 2) f__law_gain [prL m p, .int s, .int kk] = .ok (.int (gainF m p s k)) none := by
  subst e
  rw [run__law_gain (by simp)]
  simp -implicitDefEqProofs -dsimp (disch := trivial) [c__law_gain]
  generalize hr : forC _ _ _ _ _ _ _ = res
  have key := forC_run hr (fun y e => ∃ a b, e = [some (prL m p), some (.int s), some (.int k), some (.int (gainF m p s y)), a, b]) ⟨_, _, rfl⟩ ?_
  · obtain ⟨_, rfl, a, b, rfl⟩ := key
    simp -implicitDefEqProofs -dsimp (disch := trivial)
  · rintro y _ hy ⟨a, b, rfl⟩
    clear hr
    have h := hp (s + y)
    have m1 := binD_mul1 (a := (pairAt m p (s + y)).1) (b := gainF m p s y) (by omega)
    simp -implicitDefEqProofs -dsimp (disch := trivial) [L_pair, m1]
    rfl
theorem L_table {h w : Nat} (hh : h ≤ 100) (hw : w ≤ 100) : callF T (n + 1) f__law_table [.int h, .int w] = .ok (.lst true (ln h fun _ => .lst true (ln w fun _ => .int 0))) none := by
  rw [run__law_table (by simp)]
  simp -implicitDefEqProofs -dsimp (disch := trivial) [c__law_table]
  generalize hr : forC _ _ _ _ _ _ _ = res
  have key := forC_run hr (fun y e => ∃ a, e = [some (.int h), some (.int w), some (.lst true (ln y fun _ => .lst true (ln w fun _ => .int 0))), a, none]) ⟨_, rfl⟩ ?_
  · obtain ⟨_, rfl, a, rfl⟩ := key
    simp -implicitDefEqProofs -dsimp (disch := trivial)
  · rintro y _ hy ⟨a, rfl⟩
    clear hr
    simp -implicitDefEqProofs -dsimp (disch := trivial)
    rw [compC_run (fun _ => .int 0)]
    · simp -implicitDefEqProofs -dsimp (disch := trivial) [ln_succ]
    · intro k hk
      simp -implicitDefEqProofs -dsimp (disch := trivial)
    · simp; omega
theorem L_copy {o o' : Bool} {h w : Nat} {f : Nat → Nat → Int} (hh : h ≤ 100) : callF T (n + 1) f__law_copy [tL h w f] = .ok (.lst true (ln h fun x => .lst true (ln w fun y => .int (f x y)))) none := by
  rw [run__law_copy (by simp)]
  simp -implicitDefEqProofs -dsimp (disch := trivial) [c__law_copy]
  rw [compC_run (fun x => .lst true (ln w fun y => .int (f x y)))]
  · simp -implicitDefEqProofs -dsimp (disch := trivial)
  · intro k hk
    simp -implicitDefEqProofs -dsimp (disch := trivial)
  · simp; omega
theorem L_still {t : Nat} {sz : Nat → Nat} (ht : t ≤ 100) (hs : ∀ r, sz r ≤ 100) : callF T (n + 1) f__law_still [szL t sz] = .ok (.lst true (ln (t + 1) fun i => .lst true (ln (sz i) fun k => .int k))) none := by
  rw [run__law_still (by simp)]
  simp -implicitDefEqProofs -dsimp (disch := trivial) [c__law_still]
  rw [compC_run (fun i => .lst true (ln (sz i) fun k => .int k))]
  · simp -implicitDefEqProofs -dsimp (disch := trivial)
  · intro k hk
    have := hs k
    simp -implicitDefEqProofs -dsimp (disch := trivial)
  · simp; omega
/-- is there a late chain? -/
def msQ (m : Nat) (p : Nat → Int × Int) (s j : Nat) : Option D := if gainF m p s (j + 1) = 0 then some (.bl true) else if gainF m p s (j + 1) < 0 then some (.bl false) else none
def mayStart (m : Nat) (p : Nat → Int × Int) (s k : Nat) : D := ((List.range k).findSome? (msQ m p s)).getD (.bl true)
theorem L_may_start {s t : Nat} (ht : t ≤ 90) (hs : s ≤ t) (hp : ∀ i, 0 ≤ (pairAt m p i).1 ∧ (pairAt m p i).1 < 2 ^ 64) : callF T (n + 3) f__law_may_start [prL m p, .int s, .int t] = .ok (mayStart m p s (t - s)) none := by
  rw [run__law_may_start (by simp)]
  simp -implicitDefEqProofs -dsimp (disch := trivial) [c__law_may_start]
  generalize hr : forC _ _ _ _ _ _ _ = res
  have key := forC_find hr (fun e => ∃ a b, e = [some (prL m p), some (.int s), some (.int t), a, b]) (msQ m p s) ⟨_, _, rfl⟩ ?_
  · unfold mayStart
    rcases fnd_cases key with ⟨h1, e, h2 | h2, _, _, rfl⟩ | ⟨d, e, h1, h2⟩
    · rw [h1, h2]; simp
    · exact absurd (hr.trans h2) (forL_nct _ _ _)
    · rw [h1, h2]; simp
  · rintro y _ hy ⟨_, _, rfl⟩
    clear hr
    have hg := fun n => L_gain (n := n) (s := s) (k := y + 1) (kk := (s : Int) + y + 1 - s) (by omega) (by omega) hp
    unfold msQ
    by_cases h1 : gainF m p s (y + 1) = 0
    · rw [if_pos h1]
      simp -implicitDefEqProofs -dsimp (disch := trivial) [hg, h1]
    · rw [if_neg h1]
      by_cases h2 : gainF m p s (y + 1) < 0
      · rw [if_pos h2]
        simp -implicitDefEqProofs -dsimp (disch := trivial) [hg, h1, h2]
      · rw [if_neg h2]
        simp -implicitDefEqProofs -dsimp (disch := trivial) [hg, h1, h2]
end
end Lw
set_option Elab.async false
set_option linter.all false
set_option maxRecDepth 100000
set_option maxHeartbeats 4000000
namespace Lw
local macro_rules | `(tactic| trivial) => `(tactic| first | omega | (simp; done) | (simp; omega))
open PySem PySem.Spec PyProof.Rows L2 VS
def lvB (m : Nat) (p : Nat → Int × Int) (s : Nat) : Nat → Bool
  | 0 => true
  | n + 1 => lvB m p s n && (decide (n < s) || decide (0 < gainF m p s (n + 1 - s)))
def csz (m : Nat) (p : Nat → Int × Int) (s n : Nat) : Nat := if s ≤ n ∧ lvB m p s n = true then 1 else 0
def cup : Nat → Nat → Nat → Int := fun _ _ _ => 1
def cdn (m : Nat) (p : Nat → Int × Int) (s : Nat) : Nat → Nat → Nat → Int := fun r _ _ => gainF m p s (r + 1 - s)
section
variable {n m : Nat} {p : Nat → Int × Int}
theorem csz01 {s k : Nat} : csz m p s k = 0 ∨ csz m p s k = 1 := by unfold csz; split <;> simp
theorem ln_one {α : Type} {f : Nat → α} : ln 1 f = [f 0] := rfl
def chE (N t : Nat) (m : Nat) (p : Nat → Int × Int) (s k : Nat) (l : Bool) (a b c e : Option D) : VE := [some (prL m p), some (.int s), some (.int t), some (.lst true (ln N fun i => .int (csz m p s i))), some (.lst true (ln k fun r => tL (csz m p s r) (csz m p s (r + 1)) (cup r))), some (.lst true (ln k fun r => tL (csz m p s r) (csz m p s (r + 1)) (cdn m p s r))), some (.bl l), a, b, c, e]
def chB : B := match c__law_chain with
  | .cons _ (.cons _ (.cons _ (.cons _ (.cons _ (.cons (.forS _ _ _ b) _))))) => b
  | _ => .nil
theorem ch_step {N s t k : Nat} {l : Bool} {a b c e : Option D} (ht : t ≤ 90) (hk : k < t) (hN : k + 1 < N) (hp : ∀ i, 0 ≤ (pairAt m p i).1 ∧ (pairAt m p i).1 < 2 ^ 64) :
    nxI (fstepB T (callF T (n + 2)) chB (setT (chE N t m p s k l a b c e) [7] false (.int k))) fun v => ∃ a b c e, v = chE N t m p s (k + 1) l a b c e := by
  have hsk : csz m p s k = 1 → s ≤ k := fun h => by
    unfold csz at h
    split at h
    · rename_i q; exact q.1
    · cases h
  have t0 := fun n h w hh hw => L_table (n := n) (h := h) (w := w) hh hw
  unfold chE
  rcases csz01 (m := m) (p := p) (s := s) (k := k) with h1 | h1
  · rcases csz01 (m := m) (p := p) (s := s) (k := k + 1) with h2 | h2
    · have t1 := fun n => L_table (n := n) (h := 0) (w := 0) (by omega) (by omega)
      simp only [Int.ofNat_zero, Int.natCast_zero] at t1
      simp -implicitDefEqProofs -dsimp (disch := trivial) [chB, c__law_chain, h1, h2, t1, ln_succ]
    · have t1 := fun n => L_table (n := n) (h := 0) (w := 1) (by omega) (by omega)
      simp -implicitDefEqProofs -dsimp at t1
      simp -implicitDefEqProofs -dsimp (disch := trivial) [chB, c__law_chain, h1, h2, t1, ln_succ]
  · have hg := fun n => L_gain (n := n) (s := s) (k := k + 1 - s) (kk := (k : Int) + 1 - s) (by have := hsk h1; omega) (by have := hsk h1; omega) hp
    rcases csz01 (m := m) (p := p) (s := s) (k := k + 1) with h2 | h2
    · have t1 := fun n => L_table (n := n) (h := 1) (w := 0) (by omega) (by omega)
      simp -implicitDefEqProofs -dsimp at t1
      simp -implicitDefEqProofs -dsimp (disch := trivial) [chB, c__law_chain, h1, h2, t1, hg, ln_succ]
    · have t1 := fun n => L_table (n := n) (h := 1) (w := 1) (by omega) (by omega)
      simp -implicitDefEqProofs -dsimp [ln_one] at t1
      simp -implicitDefEqProofs -dsimp (disch := trivial) [chB, c__law_chain, h1, h2, t1, hg, ln_one, VS.stI, updI, ln_succ, cup, cdn]
theorem L_chain {s t : Nat} (ht : t ≤ 90) (hs : s ≤ t) (hm : m ≤ 100) (hp : ∀ i, 0 ≤ (pairAt m p i).1 ∧ (pairAt m p i).1 < 2 ^ 64) : callF T (n + 3) f__law_chain [prL m p, .int s, .int t] =
    .ok (.lst true [szL t (csz m p s), tbL t (csz m p s) cup, tbL t (csz m p s) (cdn m p s), .lst true (ln m fun i => prD (p i)), .lst true (ln (t + 1) fun i => .lst true (ln (csz m p s i) fun k => .int k))]) none := by
  rw [run__law_chain (by simp)]
  simp -implicitDefEqProofs -dsimp (disch := trivial) [c__law_chain]
  generalize hr : forC _ _ _ _ _ _ _ = res
  have key := forC_run hr (fun k e => ∃ a, e = [some (prL m p), some (.int s), some (.int t), some (.lst true (ln k fun i => .int (csz m p s i))), some (.lst true []), some (.lst true []), some (.bl (lvB m p s k)), a, none, none, none]) ⟨_, rfl⟩ ?_
  · obtain ⟨_, rfl, a, rfl⟩ := key
    simp -implicitDefEqProofs -dsimp (disch := trivial)
    generalize hr : forC _ _ _ _ _ _ _ = res
    have key := forC_run hr (fun k v => ∃ a b c e, v = chE (t + 1) t m p s k (lvB m p s (t + 1)) a b c e) ⟨_, _, _, _, rfl⟩ fun k e hk ⟨a, b, c, e, hv⟩ => by rw [hv]; exact ch_step ht hk (by omega) hp
    obtain ⟨_, rfl, a, b, c, e, rfl⟩ := key
    have hs1 : ∀ r, csz m p s r ≤ 100 := fun r => by rcases csz01 (m := m) (p := p) (s := s) (k := r) with h | h <;> omega
    have hst := fun n => L_still (n := n) (t := t) (sz := csz m p s) (by omega) hs1
    simp -implicitDefEqProofs -dsimp (disch := trivial) [chE, hst]
  · rintro k _ hk ⟨a, rfl⟩
    clear hr
    by_cases h1 : k < s
    · have e : csz m p s k = 0 := by unfold csz; rw [if_neg (by omega)]
      simp -implicitDefEqProofs -dsimp (disch := trivial) [h1, e, ln_succ, lvB]
    · cases h2 : lvB m p s k with
      | false =>
        have e : csz m p s k = 0 := by unfold csz; rw [if_neg (by rw [h2]; simp)]
        simp -implicitDefEqProofs -dsimp (disch := trivial) [h1, e, ln_succ, lvB, h2]
      | true =>
        have e : csz m p s k = 1 := by unfold csz; rw [if_pos ⟨by omega, h2⟩]
        have hg := fun n => L_gain (n := n) (s := s) (k := k + 1 - s) (kk := (k : Int) + 1 - s) (by omega) (by omega) hp
        by_cases h3 : gainF m p s (k + 1 - s) ≤ 0
        · have h4 : ¬ 0 < gainF m p s (k + 1 - s) := by omega
          simp -implicitDefEqProofs -dsimp (disch := trivial) [h1, e, ln_succ, lvB, h2, hg, h3, h4]
        · have h4 : 0 < gainF m p s (k + 1 - s) := by omega
          simp -implicitDefEqProofs -dsimp (disch := trivial) [h1, e, ln_succ, lvB, h2, hg, h3, h4]
end
end Lw
set_option Elab.async false
set_option linter.all false
set_option maxRecDepth 100000
set_option maxHeartbeats 4000000
namespace Lw
local macro_rules | `(tactic| trivial) => `(tactic| first | omega | (simp; done) | (simp; omega))
open PySem PySem.Spec PyProof.Rows L2 VS
abbrev tnL (t : Nat) (sz : Nat → Nat) (tn : Nat → Nat → Int) : D := .lst false (ln (t + 1) fun i => rL (sz i) (tn i))
abbrev caseD (t : Nat) (sz : Nat → Nat) (u d : Nat → Nat → Nat → Int) (m : Nat) (p : Nat → Int × Int) (tn : Nat → Nat → Int) : D := .lst false [szL t sz, tbL t sz u, tbL t sz d, prL m p, tnL t sz tn]
theorem ln_appI {n m : Nat} {f g : Nat → Int} : (ln n fun i => D.int (f i)) ++ (ln m fun i => D.int (g i)) = ln (n + m) fun i => .int (if i < n then f i else g (i - n)) := by
  rw [ln_append]
  exact ln_congr fun i _ => by split <;> rfl
theorem ln_appR {n m w : Nat} {f g : Nat → Nat → Int} : (ln n fun x => rL w (f x)) ++ (ln m fun x => rL w (g x)) = ln (n + m) fun x => rL w fun y => if x < n then f x y else g (x - n) y := by
  rw [ln_append]
  exact ln_congr fun i _ => by
    by_cases h : i < n
    · rw [if_pos h]; simp only [h, if_true]
    · rw [if_neg h]; simp only [h, if_false]
def jt (s1 : Nat → Nat) (f g : Nat → Nat → Nat → Int) (r x y : Nat) : Int := if x < s1 r then (if y < s1 (r + 1) then f r x y else 0) else (if y < s1 (r + 1) then 0 else g r (x - s1 r) (y - s1 (r + 1)))
def jn (s1 : Nat → Nat) (f g : Nat → Nat → Int) (r z : Nat) : Int := if z < s1 r then f r z else (s1 r : Int) + g r (z - s1 r)
section
variable {n t m m2 : Nat} {s1 s2 : Nat → Nat} {u1 d1 u2 d2 : Nat → Nat → Nat → Int} {p p2 : Nat → Int × Int} {n1 n2 : Nat → Nat → Int}
theorem L_exchanged : callF T (n + 1) f__law_exchanged [caseD t s1 u1 d1 m p n1] = .ok (.lst true [szL t s1, tbL t s1 d1, tbL t s1 u1, prL m p, tnL t s1 n1]) none := by
  rw [run__law_exchanged (by simp)]
  simp -implicitDefEqProofs -dsimp (disch := trivial) [c__law_exchanged]
def jnB : B := match c__law_joined with
  | .cons _ (.cons _ (.cons (.forS _ _ _ (.cons _ (.cons (.forS _ _ _ b) _))) _)) => b
  | _ => .nil
/-- one rank's table -/
theorem jn_step {k : Int} {r : Nat} {A Bo S : D} {X : List D} {f g : Nat → Nat → Nat → Int} {a b c e : Option D} {C1 C2 : List D}
    (hA : A = .lst false C1) (hB : Bo = .lst false C2) (fA : D.allFz C1 = true) (fB : D.allFz C2 = true)
    (a0 : ixD C1 0 = some (szL t s1)) (ak : ixD C1 k = some (tbL t s1 f)) (b0 : ixD C2 0 = some (szL t s2)) (bk : ixD C2 k = some (tbL t s2 g)) (hr : r < t) (ht : t ≤ 90) (h1 : ∀ r, s1 r ≤ 50) (h2 : ∀ r, s2 r ≤ 50) :
    nxI (fstepB T (callF T n) jnB (setT [some A, some Bo, some S, some (.lst true X), some (.int k), none, c, some (.lst true (ln r fun r => .lst true (ln (s1 r + s2 r) fun x => rL (s1 (r + 1) + s2 (r + 1)) (jt s1 f g r x)))), a, b, e, none, none, none] [6] false (.int r)))
      fun v => ∃ a b c e, v = [some A, some Bo, some S, some (.lst true X), some (.int k), none, c, some (.lst true (ln (r + 1) fun r => .lst true (ln (s1 r + s2 r) fun x => rL (s1 (r + 1) + s2 (r + 1)) (jt s1 f g r x)))), a, b, e, none, none, none] := by
  subst hA hB
  have g1 := h1 r
  have g2 := h2 r
  have g3 := h1 (r + 1)
  have g4 := h2 (r + 1)
  simp -implicitDefEqProofs -dsimp (disch := trivial) [jnB, c__law_joined, a0, ak, b0, bk]
  rw [compC_run (fun _ => .int 0)]
  · simp -implicitDefEqProofs -dsimp (disch := trivial) [a0, ak, b0, bk]
    rw [compC_run (fun _ => .int 0)]
    · simp -implicitDefEqProofs -dsimp (disch := trivial) [a0, ak, b0, bk]
      rw [compC_run (fun x => .lst true (ln (s1 (r + 1) + s2 (r + 1)) fun y => .int (if y < s1 (r + 1) then f r x y else 0)))]
      · simp -implicitDefEqProofs -dsimp (disch := trivial) [a0, ak, b0, bk]
        rw [compC_run (fun x => .lst true (ln (s1 (r + 1) + s2 (r + 1)) fun y => .int (if y < s1 (r + 1) then 0 else g r x (y - s1 (r + 1)))))]
        · simp -implicitDefEqProofs -dsimp (disch := trivial) [a0, ak, b0, bk]
          have e := ln_appR (n := s1 r) (m := s2 r) (w := s1 (r + 1) + s2 (r + 1)) (f := fun x y => if y < s1 (r + 1) then f r x y else 0) (g := fun x y => if y < s1 (r + 1) then 0 else g r x (y - s1 (r + 1)))
          rw [e, ln_succ]
          rfl
        · intro k hk
          simp -implicitDefEqProofs -dsimp (disch := trivial) [a0, ak, b0, bk, ln_appI]
        · simp; omega
      · intro k hk
        simp -implicitDefEqProofs -dsimp (disch := trivial) [a0, ak, b0, bk, ln_appI]
      · simp; omega
    · intro k hk
      simp -implicitDefEqProofs -dsimp (disch := trivial)
    · simp; omega
  · intro k hk
    simp -implicitDefEqProofs -dsimp (disch := trivial)
  · simp; omega
theorem ln_two {α : Type} {f : Nat → α} : ln 2 f = [f 0, f 1] := rfl
theorem fz_tabs {t : Nat} {s : Nat → Nat} {f : Nat → Nat → Nat → Int} : (D.lst true (ln t fun r => .lst true (ln (s r) fun x => rL (s (r + 1)) (f r x)))).fz = tbL t s f := by simp
theorem L_joined (ht : t ≤ 90) (hm : m ≤ 100) (h1 : ∀ r, s1 r ≤ 50) (h2 : ∀ r, s2 r ≤ 50) : callF T (n + 1) f__law_joined [caseD t s1 u1 d1 m p n1, caseD t s2 u2 d2 m2 p2 n2] =
    .ok (.lst true [szL t fun r => s1 r + s2 r, tbL t (fun r => s1 r + s2 r) (jt s1 u1 u2), tbL t (fun r => s1 r + s2 r) (jt s1 d1 d2), .lst true (ln m fun i => prD (p i)), .lst false (ln (t + 1) fun r => .lst false (ln (s1 r + s2 r) fun z => .int (jn s1 n1 n2 r z)))]) none := by
  rw [run__law_joined (by simp)]
  simp -implicitDefEqProofs -dsimp (disch := trivial) [c__law_joined]
  rw [compC_run (fun r => .int ((s1 r + s2 r : Nat) : Int))]
  · simp -implicitDefEqProofs -dsimp (disch := trivial)
    generalize hr : forC _ _ _ _ _ _ _ = res
    have key := forC_run hr (fun r v => ∃ a b c e, v = [some (caseD t s1 u1 d1 m p n1), some (caseD t s2 u2 d2 m2 p2 n2), some (.lst false (ln (t + 1) fun r => .int ((s1 r : Int) + s2 r))), some (.lst true []), some (.int 1), none, c, some (.lst true (ln r fun r => .lst true (ln (s1 r + s2 r) fun x => rL (s1 (r + 1) + s2 (r + 1)) (jt s1 u1 u2 r x)))), a, b, e, none, none, none]) ⟨none, none, none, none, rfl⟩ ?_
    · obtain ⟨_, rfl, a, b, c, e, rfl⟩ := key
      clear hr
      simp -implicitDefEqProofs -dsimp (disch := trivial)
      generalize hr : forC _ _ _ _ _ _ _ = res
      have key := forC_run hr (fun r v => ∃ a b c e, v = [some (caseD t s1 u1 d1 m p n1), some (caseD t s2 u2 d2 m2 p2 n2), some (.lst false (ln (t + 1) fun r => .int ((s1 r : Int) + s2 r))), some (.lst true [tbL t (fun r => s1 r + s2 r) (jt s1 u1 u2)]), some (.int 2), none, c, some (.lst true (ln r fun r => .lst true (ln (s1 r + s2 r) fun x => rL (s1 (r + 1) + s2 (r + 1)) (jt s1 d1 d2 r x)))), a, b, e, none, none, none]) ⟨_, _, _, _, rfl⟩ ?_
      · obtain ⟨_, rfl, a, b, c, e, rfl⟩ := key
        clear hr
        simp -implicitDefEqProofs -dsimp (disch := trivial)
        generalize hr : forC _ _ _ _ _ _ _ = res
        have key := forC_run hr (fun r v => ∃ a b c d e, v = [some (caseD t s1 u1 d1 m p n1), some (caseD t s2 u2 d2 m2 p2 n2), some (.lst false (ln (t + 1) fun r => .int ((s1 r : Int) + s2 r))), some (.lst true [tbL t (fun r => s1 r + s2 r) (jt s1 u1 u2), tbL t (fun r => s1 r + s2 r) (jt s1 d1 d2)]), some (.int 2), some (.lst true (ln r fun r => .lst true (ln (s1 r + s2 r) fun z => .int (jn s1 n1 n2 r z)))), c, d, a, b, e, none, none, none]) ⟨_, _, _, _, _, rfl⟩ ?_
        · obtain ⟨_, rfl, a, b, c, d, e, rfl⟩ := key
          clear hr
          simp -implicitDefEqProofs -dsimp (disch := trivial)
        · rintro r v hr' ⟨a, b, c, d, e, rfl⟩
          clear hr
          have g1 := h1 r
          have g2 := h2 r
          simp -implicitDefEqProofs -dsimp (disch := trivial)
          rw [compC_run (fun z => .int ((s1 r : Int) + n2 r z))]
          · simp -implicitDefEqProofs -dsimp (disch := trivial) [ln_appI]
            rw [ln_succ]
            rfl
          · intro k hk
            simp -implicitDefEqProofs -dsimp (disch := trivial)
          · simp; omega
      · rintro r v hr' ⟨a, b, c, e, rfl⟩
        exact jn_step rfl rfl (by simp) (by simp) (by simp) (by simp) (by simp) (by simp) hr' ht h1 h2
    · rintro r v hr' ⟨a, b, c, e, rfl⟩
      exact jn_step rfl rfl (by simp) (by simp) (by simp) (by simp) (by simp) (by simp) hr' ht h1 h2
  · intro k hk
    have := h1 k
    have := h2 k
    simp -implicitDefEqProofs -dsimp (disch := trivial)
  · simp; omega
end
end Lw
set_option Elab.async false
set_option linter.all false
set_option maxRecDepth 100000
set_option maxHeartbeats 4000000
namespace Lw
local macro_rules | `(tactic| trivial) => `(tactic| first | omega | (simp; done) | (simp; omega))
open PySem PySem.Spec PyProof.Rows L2 VS
def tb3 (l : List (List (List Int))) (r x y : Nat) : Int := ((l.getD r []).getD x []).getD y 0
def szN (l : List Nat) (r : Nat) : Nat := l.getD r 0
def prN (l : List (Int × Int)) (r : Nat) : Int × Int := l.getD r (1, 1)
structure Mn where
  sz : List Nat
  u : List (List (List Int))
  d : List (List (List Int))
  p : List (Int × Int)
def menu : Nat → Mn
  | 0 => ⟨[1, 2, 2], [[[1, 1]], [[1, 0], [0, 1]]], [[[1, 1]], [[0, 1], [1, 0]]], [(1, 2), (1, -1)]⟩
  | 1 => ⟨[1, 2, 2, 1], [[[1, 2]], [[2, 0], [1, 1]], [[1], [1]]], [[[1, 1]], [[1, 0], [1, 2]], [[2], [1]]], [(1, 3), (1, 1), (1, -1)]⟩
  | 2 => ⟨[1, 1, 2, 4], [[[1]], [[1, 1]], [[1, 0, 1, 0], [0, 1, 0, 1]]], [[[1]], [[1, 1]], [[1, 1, 1, 0], [0, 1, 1, 1]]], [(1, 1), (1, 1), (1, 1)]⟩
  | 3 => ⟨[1, 2], [[[1, 0]]], [[[0, 1]]], [(1, 0)]⟩
  | _ => ⟨[0, 1, 1], [[], [[1]]], [[], [[1]]], [(1, 1), (1, 1)]⟩
def mnC (a : Mn) : D := caseD a.u.length (szN a.sz) (tb3 a.u) (tb3 a.d) a.p.length (prN a.p) (fun _ k => k)
def mnR (w : Nat) : D := match callF T 2 f__law_menu_unlike [.int w] with
  | .ok d _ => d
  | _ => .non
theorem mn_fz0 : (mnR 0).fz = mnC (menu 0) := by kernel_rfl
theorem mn_fz1 : (mnR 1).fz = mnC (menu 1) := by kernel_rfl
theorem mn_fz2 : (mnR 2).fz = mnC (menu 2) := by kernel_rfl
theorem mn_fz3 : (mnR 3).fz = mnC (menu 3) := by kernel_rfl
theorem mn_fz4 : (mnR 4).fz = mnC (menu 4) := by kernel_rfl
theorem mn_0 (n : Nat) : callF T (n + 2) f__law_menu_unlike [.int 0] = .ok (mnR 0) none := by kernel_rfl
theorem mn_1 (n : Nat) : callF T (n + 2) f__law_menu_unlike [.int 1] = .ok (mnR 1) none := by kernel_rfl
theorem mn_2 (n : Nat) : callF T (n + 2) f__law_menu_unlike [.int 2] = .ok (mnR 2) none := by kernel_rfl
theorem mn_3 (n : Nat) : callF T (n + 2) f__law_menu_unlike [.int 3] = .ok (mnR 3) none := by kernel_rfl
theorem mn_4 (n : Nat) : callF T (n + 2) f__law_menu_unlike [.int 4] = .ok (mnR 4) none := by kernel_rfl
theorem L_menu {n : Nat} {w : Int} (h : 0 ≤ w) (h5 : w < 5) : ∃ a k, k < 5 ∧ a = menu k ∧ ∃ d, d.fz = mnC a ∧ callF T (n + 2) f__law_menu_unlike [.int w] = .ok d none := by
  have : w = 0 ∨ w = 1 ∨ w = 2 ∨ w = 3 ∨ w = 4 := by omega
  rcases this with rfl | rfl | rfl | rfl | rfl
  · exact ⟨_, 0, by omega, rfl, _, mn_fz0, mn_0 n⟩
  · exact ⟨_, 1, by omega, rfl, _, mn_fz1, mn_1 n⟩
  · exact ⟨_, 2, by omega, rfl, _, mn_fz2, mn_2 n⟩
  · exact ⟨_, 3, by omega, rfl, _, mn_fz3, mn_3 n⟩
  · exact ⟨_, 4, by omega, rfl, _, mn_fz4, mn_4 n⟩
end Lw
set_option Elab.async false
set_option linter.all false
set_option maxRecDepth 100000
set_option maxHeartbeats 4000000
/-! webs that keep their pairs: the mathematics -/
namespace Lw
open PySem PySem.Spec PyProof.Rows L2 VS
/-! sums -/
theorem sm_succ {n : Nat} {f : Nat → Int} : (ln (n + 1) f).sum = (ln n f).sum + f n := by rw [ln_succ]; simp
theorem sm_add {a b : Nat} {f : Nat → Int} : (ln (a + b) f).sum = (ln a f).sum + (ln b fun i => f (a + i)).sum := by
  induction b with
  | zero => simp
  | succ b ih => rw [← Nat.add_assoc, sm_succ, ih, sm_succ, Int.add_assoc]
theorem sm_congr {n : Nat} {f g : Nat → Int} (h : ∀ i, i < n → f i = g i) : (ln n f).sum = (ln n g).sum := by rw [ln_congr h]
theorem sm_zero {n : Nat} {f : Nat → Int} (h : ∀ i, i < n → f i = 0) : (ln n f).sum = 0 := by
  induction n with
  | zero => rfl
  | succ n ih => rw [sm_succ, ih fun i hi => h i (by omega), h n (by omega)]; rfl
structure Kpt (t : Nat) (sz : Nat → Nat) (u d : Nat → Nat → Nat → Int) (m : Nat) (p : Nat → Int × Int) (b : Nat) : Prop where
  t1 : 1 ≤ t
  t4 : t ≤ 4
  hs : ∀ r, sz r ≤ b
  u0 : ∀ r x y, 0 ≤ u r x y ∧ u r x y ≤ 1000
  d0 : ∀ r x y, 0 ≤ d r x y ∧ d r x y ≤ 1000
  hm : m ≤ 10
  hp : ∀ i, 0 ≤ (pairAt m p i).1 ∧ (pairAt m p i).1 ≤ 2 ∧ -3 ≤ (pairAt m p i).2 ∧ (pairAt m p i).2 ≤ 3
  kept : ∀ r, r < t → ∀ x z, x < sz r → z < sz r → abv sz u d r x z = dueT (pairAt m p r).1 (pairAt m p r).2 (bel sz u d r) x z
theorem bel_s {sz : Nat → Nat} {u d : Nat → Nat → Nat → Int} {r x z : Nat} : bel sz u d (r + 1) x z = (ln (sz r) fun w => d r w x * u r w z).sum := rfl
theorem abv_s {sz : Nat → Nat} {u d : Nat → Nat → Nat → Int} {r x z : Nat} : abv sz u d r x z = (ln (sz (r + 1)) fun y => u r x y * d r z y).sum := rfl
section
variable {t m b c : Nat} {sz s1 s2 : Nat → Nat} {u d u1 d1 u2 d2 : Nat → Nat → Nat → Int} {p : Nat → Int × Int}
theorem abv_ex {r x z : Nat} : abv sz d u r x z = abv sz u d r z x := by
  rw [abv_s, abv_s]
  exact sm_congr fun y _ => Int.mul_comm _ _
theorem bel_ex : ∀ {r x z : Nat}, bel sz d u r x z = bel sz u d r z x
  | 0, _, _ => rfl
  | r + 1, x, z => by
    rw [bel_s, bel_s]
    exact sm_congr fun y _ => Int.mul_comm _ _
theorem Kpt.exch (g : Kpt t sz u d m p b) : Kpt t sz d u m p b where
  t1 := g.t1
  t4 := g.t4
  hs := g.hs
  u0 := g.d0
  d0 := g.u0
  hm := g.hm
  hp := g.hp
  kept := fun r hr x z hx hz => by
    rw [abv_ex, g.kept r hr z x hz hx]
    unfold dueT
    rw [bel_ex (u := u) (d := d) (x := x) (z := z)]
    by_cases h : x = z
    · rw [if_pos h, if_pos h.symm]
    · rw [if_neg h, if_neg fun e => h e.symm]
theorem jt_ll {f g : Nat → Nat → Nat → Int} {r x y : Nat} (hx : x < s1 r) (hy : y < s1 (r + 1)) : jt s1 f g r x y = f r x y := by unfold jt; rw [if_pos hx, if_pos hy]
theorem jt_lr {f g : Nat → Nat → Nat → Int} {r x y : Nat} (hx : x < s1 r) : jt s1 f g r x (s1 (r + 1) + y) = 0 := by unfold jt; rw [if_pos hx, if_neg (by omega)]
theorem jt_rl {f g : Nat → Nat → Nat → Int} {r x y : Nat} (hy : y < s1 (r + 1)) : jt s1 f g r (s1 r + x) y = 0 := by unfold jt; rw [if_neg (by omega), if_pos hy]
theorem jt_rr {f g : Nat → Nat → Nat → Int} {r x y : Nat} : jt s1 f g r (s1 r + x) (s1 (r + 1) + y) = g r x y := by
  unfold jt
  rw [if_neg (by omega), if_neg (by omega), Nat.add_sub_cancel_left, Nat.add_sub_cancel_left]
theorem jt_bd {f g : Nat → Nat → Nat → Int} (hf : ∀ r x y, 0 ≤ f r x y ∧ f r x y ≤ 1000) (hg : ∀ r x y, 0 ≤ g r x y ∧ g r x y ≤ 1000) (r x y : Nat) : 0 ≤ jt s1 f g r x y ∧ jt s1 f g r x y ≤ 1000 := by
  unfold jt
  split
  · split
    · exact hf r x y
    · omega
  · split
    · omega
    · exact hg _ _ _
theorem abv_ll {r x z : Nat} (hx : x < s1 r) (hz : z < s1 r) : abv (fun r => s1 r + s2 r) (jt s1 u1 u2) (jt s1 d1 d2) r x z = abv s1 u1 d1 r x z := by
  rw [abv_s]
  try rw [abv_s]
  rw [sm_add, sm_zero (n := s2 (r + 1)) fun i _ => by rw [jt_lr hx, Int.zero_mul], Int.add_zero]
  exact sm_congr fun i hi => by rw [jt_ll hx hi, jt_ll hz hi]
theorem abv_lr {r x z : Nat} (hx : x < s1 r) : abv (fun r => s1 r + s2 r) (jt s1 u1 u2) (jt s1 d1 d2) r x (s1 r + z) = 0 := by
  rw [abv_s]
  try rw [abv_s]
  rw [sm_add, sm_zero (n := s2 (r + 1)) fun i _ => by rw [jt_lr hx, Int.zero_mul], sm_zero fun i hi => by rw [jt_rl hi, Int.mul_zero]]
  rfl
theorem abv_rl {r x z : Nat} (hz : z < s1 r) : abv (fun r => s1 r + s2 r) (jt s1 u1 u2) (jt s1 d1 d2) r (s1 r + x) z = 0 := by
  rw [abv_s]
  try rw [abv_s]
  rw [sm_add, sm_zero (n := s2 (r + 1)) fun i _ => by rw [jt_lr hz, Int.mul_zero], sm_zero fun i hi => by rw [jt_rl hi, Int.zero_mul]]
  rfl
theorem abv_rr {r x z : Nat} : abv (fun r => s1 r + s2 r) (jt s1 u1 u2) (jt s1 d1 d2) r (s1 r + x) (s1 r + z) = abv s2 u2 d2 r x z := by
  rw [abv_s]
  try rw [abv_s]
  rw [sm_add, sm_zero (n := s1 (r + 1)) fun i hi => by rw [jt_rl hi, Int.zero_mul], Int.zero_add]
  exact sm_congr fun i hi => by rw [jt_rr, jt_rr]
theorem bel_ll : ∀ {r x z : Nat}, x < s1 r → z < s1 r → bel (fun r => s1 r + s2 r) (jt s1 u1 u2) (jt s1 d1 d2) r x z = bel s1 u1 d1 r x z
  | 0, _, _, _, _ => rfl
  | r + 1, x, z, hx, hz => by
    rw [bel_s]
    try rw [bel_s]
    rw [sm_add, sm_zero (n := s2 r) fun i _ => by rw [jt_rl hx, Int.zero_mul], Int.add_zero]
    exact sm_congr fun i hi => by rw [jt_ll hi hx, jt_ll hi hz]
theorem bel_lr : ∀ {r x z : Nat}, x < s1 r → bel (fun r => s1 r + s2 r) (jt s1 u1 u2) (jt s1 d1 d2) r x (s1 r + z) = 0
  | 0, _, _, _ => rfl
  | r + 1, x, z, hx => by
    rw [bel_s]
    try rw [bel_s]
    rw [sm_add, sm_zero (n := s2 r) fun i _ => by rw [jt_rl hx, Int.zero_mul], sm_zero fun i hi => by rw [jt_lr (s1 := s1) (y := z) hi, Int.mul_zero]]
    rfl
theorem bel_rl : ∀ {r x z : Nat}, z < s1 r → bel (fun r => s1 r + s2 r) (jt s1 u1 u2) (jt s1 d1 d2) r (s1 r + x) z = 0
  | 0, _, _, _ => rfl
  | r + 1, x, z, hz => by
    rw [bel_s]
    try rw [bel_s]
    rw [sm_add, sm_zero (n := s2 r) fun i _ => by rw [jt_rl (x := i) hz, Int.mul_zero], sm_zero fun i hi => by rw [jt_lr (s1 := s1) (y := x) hi, Int.zero_mul]]
    rfl
theorem bel_rr : ∀ {r x z : Nat}, bel (fun r => s1 r + s2 r) (jt s1 u1 u2) (jt s1 d1 d2) r (s1 r + x) (s1 r + z) = bel s2 u2 d2 r x z
  | 0, _, _ => rfl
  | r + 1, x, z => by
    rw [bel_s]
    try rw [bel_s]
    rw [sm_add, sm_zero (n := s1 r) fun i hi => by rw [jt_lr (s1 := s1) (y := x) hi, Int.zero_mul], Int.zero_add]
    exact sm_congr fun i hi => by rw [jt_rr, jt_rr]
theorem Kpt.join (g : Kpt t s1 u1 d1 m p b) (h : Kpt t s2 u2 d2 m p c) : Kpt t (fun r => s1 r + s2 r) (jt s1 u1 u2) (jt s1 d1 d2) m p (b + c) where
  t1 := g.t1
  t4 := g.t4
  hs := fun r => by have := g.hs r; have := h.hs r; show s1 r + s2 r ≤ b + c; omega
  u0 := jt_bd g.u0 h.u0
  d0 := jt_bd g.d0 h.d0
  hm := g.hm
  hp := g.hp
  kept := fun r hr x z hx hz => by
    by_cases h1 : x < s1 r
    · by_cases h2 : z < s1 r
      · rw [abv_ll h1 h2, g.kept r hr x z h1 h2]
        unfold dueT
        rw [bel_ll h1 h2]
      · obtain ⟨z', rfl⟩ : ∃ z', z = s1 r + z' := ⟨z - s1 r, by omega⟩
        rw [abv_lr h1]
        unfold dueT
        rw [bel_lr h1, if_neg (by omega)]; simp
    · obtain ⟨x', rfl⟩ : ∃ x', x = s1 r + x' := ⟨x - s1 r, by omega⟩
      by_cases h2 : z < s1 r
      · rw [abv_rl h2]
        unfold dueT
        rw [bel_rl h2, if_neg (by omega)]; simp
      · obtain ⟨z', rfl⟩ : ∃ z', z = s1 r + z' := ⟨z - s1 r, by omega⟩
        rw [abv_rr, h.kept r hr x' z' (by omega) (by omega)]
        unfold dueT
        rw [bel_rr]
        by_cases e : x' = z'
        · rw [if_pos e, if_pos (by omega)]
        · rw [if_neg e, if_neg (by omega)]
end
end Lw
set_option Elab.async false
set_option linter.all false
set_option maxRecDepth 100000
set_option maxHeartbeats 4000000
/-! the menus and late chains keep their pairs -/
namespace Lw
open PySem PySem.Spec PyProof.Rows L2 VS
def bdB (l : List (List (List Int))) : Bool := l.all fun t => t.all fun r => r.all fun i => decide (0 ≤ i) && decide (i ≤ 1000)
theorem getD_cases {α : Type} (l : List α) (i : Nat) (d : α) : l.getD i d = d ∨ l.getD i d ∈ l := by
  rw [List.getD_eq_getElem?_getD]
  cases h : l[i]? with
  | none => exact .inl rfl
  | some a => exact .inr (List.mem_of_getElem? h)
theorem tb3_bd {l : List (List (List Int))} (h : bdB l = true) (r x y : Nat) : 0 ≤ tb3 l r x y ∧ tb3 l r x y ≤ 1000 := by
  unfold tb3
  rcases getD_cases l r [] with e | e
  · rw [e]; simp
  · rcases getD_cases (l.getD r []) x [] with e2 | e2
    · rw [e2]; simp
    · rcases getD_cases ((l.getD r []).getD x []) y 0 with e3 | e3
      · rw [e3]; omega
      · have := List.all_eq_true.mp (List.all_eq_true.mp (List.all_eq_true.mp h _ e) _ e2) _ e3
        simpa using this
def ktB (t : Nat) (sz : Nat → Nat) (u d : Nat → Nat → Nat → Int) (m : Nat) (p : Nat → Int × Int) : Bool := (List.range t).all fun r => (List.range (sz r)).all fun x => (List.range (sz r)).all fun z => decide (abv sz u d r x z = dueT (pairAt m p r).1 (pairAt m p r).2 (bel sz u d r) x z)
def prB (l : List (Int × Int)) : Bool := l.all fun q => (decide (0 ≤ q.1) && decide (q.1 ≤ 2)) && (decide (-3 ≤ q.2) && decide (q.2 ≤ 3))
theorem prN_bd {l : List (Int × Int)} (h : prB l = true) (i : Nat) : 0 ≤ (pairAt l.length (prN l) i).1 ∧ (pairAt l.length (prN l) i).1 ≤ 2 ∧ -3 ≤ (pairAt l.length (prN l) i).2 ∧ (pairAt l.length (prN l) i).2 ≤ 3 := by
  unfold pairAt
  split
  · unfold prN
    rcases getD_cases l i (1, 1) with e | e
    · rw [e]; simp
    · have := List.all_eq_true.mp h _ e
      simp only [Bool.and_eq_true, decide_eq_true_eq] at this
      exact ⟨this.1.1, this.1.2, this.2.1, this.2.2⟩
  · simp
theorem szN_bd {l : List Nat} (h : l.all (fun i => decide (i ≤ 4)) = true) (r : Nat) : szN l r ≤ 4 := by
  unfold szN
  rcases getD_cases l r 0 with e | e
  · rw [e]; omega
  · simpa using List.all_eq_true.mp h _ e
def mnB (a : Mn) : Bool := (decide (1 ≤ a.u.length) && decide (a.u.length ≤ 4)) && ((a.sz.all fun i => decide (i ≤ 4)) && (bdB a.u && (bdB a.d && (decide (a.p.length ≤ 10) && (prB a.p && ktB a.u.length (szN a.sz) (tb3 a.u) (tb3 a.d) a.p.length (prN a.p))))))
theorem mn_kept {a : Mn} (h : mnB a = true) : Kpt a.u.length (szN a.sz) (tb3 a.u) (tb3 a.d) a.p.length (prN a.p) 4 := by
  unfold mnB at h
  simp only [Bool.and_eq_true, decide_eq_true_eq] at h
  obtain ⟨⟨h1, h2⟩, h3, h4, h5, h6, h7, h8⟩ := h
  refine ⟨h1, h2, szN_bd h3, tb3_bd h4, tb3_bd h5, h6, prN_bd h7, fun r hr x z hx hz => ?_⟩
  have := List.all_eq_true.mp (List.all_eq_true.mp (List.all_eq_true.mp h8 r (List.mem_range.mpr hr)) x (List.mem_range.mpr hx)) z (List.mem_range.mpr hz)
  exact of_decide_eq_true this
theorem menu_ok : ∀ k, k < 5 → mnB (menu k) = true := by decide +kernel
/-! late chains -/
section
variable {m s t : Nat} {p : Nat → Int × Int}
theorem lv_le : ∀ {k j : Nat}, lvB m p s (j + k) = true → lvB m p s j = true
  | 0, _, h => h
  | k + 1, j, h => by
    have h' : (lvB m p s (j + k) && (decide (j + k < s) || decide (0 < gainF m p s (j + k + 1 - s)))) = true := h
    rw [Bool.and_eq_true] at h'
    exact lv_le h'.1
theorem csz_one {r : Nat} (h : 0 < csz m p s r) : s ≤ r ∧ lvB m p s r = true := by
  unfold csz at h
  split at h
  · assumption
  · omega
/-- the down strands, 0 where there are none -/
def cdz (m : Nat) (p : Nat → Int × Int) (s : Nat) : Nat → Nat → Nat → Int := fun r _ _ => if r < 4 ∧ 0 < csz m p s r ∧ 0 < csz m p s (r + 1) then gainF m p s (r + 1 - s) else 0
theorem cdz_tb (ht : t ≤ 4) : tbL t (csz m p s) (cdn m p s) = tbL t (csz m p s) (cdz m p s) := by
  show D.lst false _ = D.lst false _
  congr 1
  apply ln_congr
  intro r _
  show D.lst false _ = D.lst false _
  congr 1
  apply ln_congr
  intro x hx
  show D.lst false _ = D.lst false _
  congr 1
  apply ln_congr
  intro y hy
  unfold cdn cdz
  rw [if_pos ⟨by omega, by omega, by omega⟩]
theorem lv_pos : ∀ {r : Nat}, lvB m p s r = true → ∀ i, s ≤ i → i < r → 0 < gainF m p s (i + 1 - s)
  | 0, _, i, _, h => by omega
  | r + 1, h, i, h1, h2 => by
    have h' : (lvB m p s r && (decide (r < s) || decide (0 < gainF m p s (r + 1 - s)))) = true := h
    simp only [Bool.and_eq_true, Bool.or_eq_true, decide_eq_true_eq] at h'
    by_cases e : i = r
    · subst e
      rcases h'.2 with q | q
      · omega
      · exact q
    · exact lv_pos h'.1 i h1 (by omega)
theorem lv_next {r : Nat} (h : lvB m p s r = true) (hr : s ≤ r) : lvB m p s (r + 1) = decide (0 < gainF m p s (r + 1 - s)) := by
  show (lvB m p s r && (decide (r < s) || decide (0 < gainF m p s (r + 1 - s)))) = _
  rw [h, decide_eq_false (by omega)]; simp
theorem fs_at {α : Type} {v : α} : ∀ (k j : Nat) (f : Nat → Option α), j < k → (∀ i, i < j → f i = none) → f j = some v → (List.range k).findSome? f = some v
  | 0, j, f, h, _, _ => by omega
  | k + 1, 0, f, _, _, h => by rw [List.range_succ_eq_map, List.findSome?_cons, h]
  | k + 1, j + 1, f, h, h1, h2 => by
    rw [List.range_succ_eq_map, List.findSome?_cons, h1 0 (by omega)]
    simp only [List.findSome?_map]
    exact fs_at k j (fun i => f (i + 1)) (by omega) (fun i hi => h1 (i + 1) (by omega)) h2
theorem may_ge {k j : Nat} (h : mayStart m p s k = .bl true) (hj : j < k) (h1 : ∀ i, i < j → 0 < gainF m p s (i + 1)) : 0 ≤ gainF m p s (j + 1) := by
  by_cases hn : gainF m p s (j + 1) < 0
  · exfalso
    unfold mayStart at h
    rw [fs_at k j (v := .bl false) (msQ m p s) hj (fun i hi => by have := h1 i hi; unfold msQ; rw [if_neg (by omega), if_neg (by omega)]) (by unfold msQ; rw [if_neg (by omega), if_pos hn])] at h
    simp at h
  · omega
theorem gain_bd (hp : ∀ i, 0 ≤ (pairAt m p i).1 ∧ (pairAt m p i).1 ≤ 2 ∧ -3 ≤ (pairAt m p i).2 ∧ (pairAt m p i).2 ≤ 3) : ∀ k, -(3 * (2 : Int) ^ k - 3) ≤ gainF m p s k ∧ gainF m p s k ≤ 3 * (2 : Int) ^ k - 3
  | 0 => by unfold gainF; simp
  | k + 1 => by
    obtain ⟨h1, h2⟩ := gain_bd hp k
    obtain ⟨a, b, c, d⟩ := hp (s + k)
    have e : gainF m p s (k + 1) = (pairAt m p (s + k)).1 * gainF m p s k + (pairAt m p (s + k)).2 := rfl
    have hP : (1 : Int) ≤ 2 ^ k := by
      have : (0 : Int) < 2 ^ k := Int.pow_pos (by omega)
      omega
    rw [e, Int.pow_succ]
    generalize (2 : Int) ^ k = P at *
    generalize gainF m p s k = g at *
    generalize (pairAt m p (s + k)).2 = v at *
    have hq : (pairAt m p (s + k)).1 = 0 ∨ (pairAt m p (s + k)).1 = 1 ∨ (pairAt m p (s + k)).1 = 2 := by omega
    rcases hq with hq | hq | hq <;> rw [hq] <;> omega
theorem chain_kept (ht1 : 1 ≤ t) (ht : t ≤ 4) (hs : s ≤ t) (hm : m ≤ 10) (hp : ∀ i, 0 ≤ (pairAt m p i).1 ∧ (pairAt m p i).1 ≤ 2 ∧ -3 ≤ (pairAt m p i).2 ∧ (pairAt m p i).2 ≤ 3) (hst : mayStart m p s (t - s) = .bl true) : Kpt t (csz m p s) cup (cdz m p s) m p 1 where
  t1 := ht1
  t4 := ht
  hs := fun r => by rcases csz01 (m := m) (p := p) (s := s) (k := r) with h | h <;> omega
  u0 := fun _ _ _ => by unfold cup; omega
  d0 := fun r _ _ => by
    unfold cdz
    split
    · rename_i h
      obtain ⟨h1, h2, h3⟩ := h
      obtain ⟨h4, h5⟩ := csz_one h2
      obtain ⟨h6, h7⟩ := csz_one h3
      have := lv_pos h7 r h4 (by omega)
      have b := (gain_bd (s := s) hp (r + 1 - s)).2
      have : (2 : Int) ^ (r + 1 - s) ≤ 2 ^ 4 := by
        have : r + 1 - s = 0 ∨ r + 1 - s = 1 ∨ r + 1 - s = 2 ∨ r + 1 - s = 3 ∨ r + 1 - s = 4 := by omega
        rcases this with e | e | e | e | e <;> rw [e] <;> decide
      omega
    · omega
  hm := hm
  hp := hp
  kept := fun r hr x z hx hz => by
    obtain ⟨h1, h2⟩ := csz_one (m := m) (p := p) (s := s) (r := r) (by omega)
    have e1 : csz m p s r = 1 := by rcases csz01 (m := m) (p := p) (s := s) (k := r) with h | h <;> omega
    have ex : x = 0 := by omega
    have ez : z = 0 := by omega
    subst ex ez
    have hbel : bel (csz m p s) cup (cdz m p s) r 0 0 = gainF m p s (r - s) := by
      cases r with
      | zero => rw [Nat.zero_sub]; rfl
      | succ r =>
        rw [bel_s]
        by_cases h3 : s ≤ r
        · have h4 : lvB m p s r = true := lv_le (k := 1) h2
          have e2 : csz m p s r = 1 := by unfold csz; rw [if_pos ⟨h3, h4⟩]
          rw [e2]
          show (cdz m p s r 0 0 * cup r 0 0) + 0 = _
          unfold cdz cup
          rw [if_pos ⟨by omega, by omega, by omega⟩]
          simp
        · have e2 : csz m p s r = 0 := by unfold csz; rw [if_neg (by omega)]
          rw [e2, show r + 1 - s = 0 by omega]
          rfl
    have hdue : dueT (pairAt m p r).1 (pairAt m p r).2 (bel (csz m p s) cup (cdz m p s) r) 0 0 = gainF m p s (r + 1 - s) := by
      unfold dueT
      rw [hbel, if_pos rfl, show r + 1 - s = (r - s) + 1 by omega]
      show _ = (pairAt m p (s + (r - s))).1 * gainF m p s (r - s) + (pairAt m p (s + (r - s))).2
      rw [show s + (r - s) = r by omega]
    rw [hdue, abv_s]
    have hn := lv_next h2 h1
    by_cases h3 : 0 < gainF m p s (r + 1 - s)
    · have e2 : csz m p s (r + 1) = 1 := by unfold csz; rw [if_pos ⟨by omega, by rw [hn]; exact decide_eq_true h3⟩]
      rw [e2]
      show (cup r 0 0 * cdz m p s r 0 0) + 0 = _
      unfold cdz cup
      rw [if_pos ⟨by omega, by omega, by omega⟩]
      simp
    · have e2 : csz m p s (r + 1) = 0 := by unfold csz; rw [if_neg (by rw [hn, decide_eq_false h3]; simp)]
      rw [e2]
      show 0 = _
      have h4 := may_ge (j := r - s) hst (by omega) fun i hi => by
        have := lv_pos h2 (s + i) (by omega) (by omega)
        rwa [show s + i + 1 - s = i + 1 by omega] at this
      rw [show r - s + 1 = r + 1 - s by omega] at h4
      omega
end
end Lw
set_option Elab.async false
set_option linter.all false
set_option maxRecDepth 100000
set_option maxHeartbeats 4000000
namespace Lw
local macro_rules | `(tactic| trivial) => `(tactic| first | omega | (simp; done) | (simp; omega))
open PySem PySem.Spec PyProof.Rows L2 VS
/-- a case that keeps its pairs -/
def CaseOk (b : Nat) (D : VS.D) : Prop := ∃ t sz u d m p tn, D = caseD t sz u d m p tn ∧ Kpt t sz u d m p b
theorem CaseOk.mono {a b : Nat} {D : VS.D} (h : CaseOk a D) (hab : a ≤ b) : CaseOk b D := by
  obtain ⟨t, sz, u, d, m, p, tn, e, k⟩ := h
  exact ⟨t, sz, u, d, m, p, tn, e, ⟨k.t1, k.t4, fun r => Nat.le_trans (k.hs r) hab, k.u0, k.d0, k.hm, k.hp, k.kept⟩⟩
theorem pick4 {v : Int} (h : 0 ≤ v) (h2 : v < 4) : ∃ q, 0 ≤ q ∧ q ≤ 2 ∧ ixD [.int 1, .int 1, .int 0, .int 2] v = some (.int q) := by
  have : v = 0 ∨ v = 1 ∨ v = 2 ∨ v = 3 := by omega
  rcases this with rfl | rfl | rfl | rfl
  · exact ⟨1, by decide, by decide, by simp⟩
  · exact ⟨1, by decide, by decide, by simp⟩
  · exact ⟨0, by decide, by decide, by simp⟩
  · exact ⟨2, by decide, by decide, by simp⟩
theorem ixD_5 {a b c d e f : D} {xs : List D} : ixD (a :: b :: c :: d :: e :: f :: xs) 5 = some f := by
  show ixD _ ((5 : Nat) : Int) = _
  rw [ixD_nat]; rfl
theorem pick6 {v : Int} (h : 0 ≤ v) (h2 : v < 6) : ∃ q, -3 ≤ q ∧ q ≤ 3 ∧ ixD [.int 1, .int 2, .int 1, .int 3, .int (-1), .int 0] v = some (.int q) := by
  have : v = 0 ∨ v = 1 ∨ v = 2 ∨ v = 3 ∨ v = 4 ∨ v = 5 := by omega
  rcases this with rfl | rfl | rfl | rfl | rfl | rfl
  · exact ⟨1, by decide, by decide, by simp⟩
  · exact ⟨2, by decide, by decide, by simp⟩
  · exact ⟨1, by decide, by decide, by simp⟩
  · exact ⟨3, by decide, by decide, by simp⟩
  · exact ⟨-1, by decide, by decide, by simp⟩
  · exact ⟨0, by decide, by decide, ixD_5⟩
def clB1 : B := match c__law_case_late with
  | .cons _ (.cons _ (.cons (.ifS _ (.cons _ (.cons _ (.cons (.forS _ _ _ b) _))) _) _)) => b
  | _ => .nil
def clB2 : B := match c__law_case_late with
  | .cons _ (.cons _ (.cons _ (.cons _ (.cons (.forS _ _ _ b) _)))) => b
  | _ => .nil
/-- a pair drawn -/
theorem cl_step1 {n k : Nat} {xs : List D} {w C top a b : Option D} {p : Nat → Int × Int} (hx : isI xs) (hk : k < 10) (hp : ∀ i, i < k → 0 ≤ (p i).1 ∧ (p i).1 ≤ 2 ∧ -3 ≤ (p i).2 ∧ (p i).2 ≤ 3) :
    nxI (fstepB T (callF T (n + 4)) clB1 (setT [some (.lst true xs), w, C, top, none, some (.lst true (ln k fun i => prD (p i))), a, none] [6] false (.int k))) fun v => ∃ (xs : List D) (p : Nat → Int × Int) (a : Option D), fzO a = true ∧ isI xs ∧ (∀ i, i < k + 1 → 0 ≤ (p i).1 ∧ (p i).1 ≤ 2 ∧ -3 ≤ (p i).2 ∧ (p i).2 ≤ 3) ∧ v = [some (.lst true xs), w, C, top, none, some (.lst true (ln (k + 1) fun i => prD (p i))), a, none] := by
  obtain ⟨v, ys, h1, h2, h3, h4⟩ := L_take (n := n + 3) (k := 4) hx (by omega)
  obtain ⟨v', zs, g1, g2, g3, g4⟩ := L_take (n := n + 3) (k := 6) h3 (by omega)
  obtain ⟨q, a1, a2, a3⟩ := pick4 h1 h2
  obtain ⟨r, b1, b2, b3⟩ := pick6 g1 g2
  simp -implicitDefEqProofs -dsimp (disch := trivial) [clB1, c__law_case_late, h4, g4, a3, b3]
  refine ⟨zs, fun i => if i < k then p i else (q, r), some (.int k), rfl, g3, fun i hi => ?_, rfl, ?_, rfl⟩

  · by_cases e : i < k
    · simp only [e, if_true]; exact hp i e
    · simp only [e, if_false]; exact ⟨a1, a2, b1, b2⟩
  · rw [ln_succ]
    simp only [Nat.lt_irrefl, if_false]
    congr 1
    exact ln_congr fun i hi => by simp only [hi, if_true]
theorem may_cases {m s k : Nat} {p : Nat → Int × Int} : mayStart m p s k = .bl true ∨ mayStart m p s k = .bl false := by
  unfold mayStart
  cases h : (List.range k).findSome? (msQ m p s) with
  | none => exact .inl rfl
  | some d =>
    obtain ⟨j, _, hj⟩ := List.exists_of_findSome?_eq_some h
    unfold msQ at hj
    split at hj
    · cases hj; exact .inl rfl
    · split at hj
      · cases hj; exact .inr rfl
      · cases hj
/-- a chain joined -/
theorem cl_step2 {n t k b : Nat} {xs : List D} {w C P a c : Option D} {D0 : D} (hx : isI xs) (hC : ∃ sz u d m p tn, D0 = caseD t sz u d m p tn ∧ Kpt t sz u d m p b) (hb : b ≤ 20) :
    nxI (fstepB T (callF T (n + 4)) clB2 (setT [some (.lst true xs), w, some D0, some (.int t), a, P, c, C] [4] false (.int k))) fun v => ∃ xs D0 a C, isI xs ∧ (∃ sz u d m p tn, D0 = caseD t sz u d m p tn ∧ Kpt t sz u d m p (b + 1)) ∧ v = [some (.lst true xs), w, some D0, some (.int t), a, P, c, C] := by
  obtain ⟨sz, u, d, m, p, tn, rfl, g⟩ := hC
  obtain ⟨v, ys, h1, h2, h3, h4⟩ := L_take (n := n + 3) (k := (t : Int) + 1) hx (by omega)
  obtain ⟨s, rfl⟩ := Int.eq_ofNat_of_zero_le h1
  have t4 := g.t4
  have hs : s ≤ t := by omega
  have hm := g.hm
  have hp2 : ∀ i, 0 ≤ (pairAt m p i).1 ∧ (pairAt m p i).1 < 2 ^ 64 := fun i => by have := g.hp i; omega
  have hms := L_may_start (n := n + 1) (s := s) (t := t) (m := m) (p := p) (by omega) hs hp2
  rcases may_cases (m := m) (p := p) (s := s) (k := t - s) with hb2 | hb2
  · rw [hb2] at hms
    have hch := L_chain (n := n + 1) (s := s) (t := t) (m := m) (p := p) (by omega) hs (by omega) hp2
    rw [cdz_tb t4] at hch
    have kc := chain_kept g.t1 t4 hs hm g.hp hb2
    have hj := L_joined (n := n + 3) (t := t) (m := m) (m2 := m) (s1 := sz) (s2 := csz m p s) (u1 := u) (d1 := d) (u2 := cup) (d2 := cdz m p s) (p := p) (p2 := p) (n1 := tn) (n2 := fun _ k => (k : Int)) (by omega) (by omega) (fun r => by have := g.hs r; omega) (fun r => by have := kc.hs r; omega)
    simp -implicitDefEqProofs -dsimp (disch := trivial) [clB2, c__law_case_late, h4, hms, hch, hj]
    exact ⟨h3, fun r => sz r + csz m p s r, jt sz u cup, jt sz d (cdz m p s), m, p, ⟨by simp, rfl, rfl, rfl, _, rfl⟩, Kpt.join g kc⟩
  · rw [hb2] at hms
    simp -implicitDefEqProofs -dsimp (disch := trivial) [clB2, c__law_case_late, h4, hms]
    exact ⟨h3, sz, u, d, m, p, ⟨rfl, rfl, rfl, rfl, tn, rfl⟩, ⟨g.t1, g.t4, fun r => Nat.le_trans (g.hs r) (by omega), g.u0, g.d0, g.hm, g.hp, g.kept⟩⟩
end Lw
set_option Elab.async false
set_option linter.all false
set_option maxRecDepth 100000
set_option maxHeartbeats 4000000
namespace Lw
local macro_rules | `(tactic| trivial) => `(tactic| first | omega | (simp; done) | (simp; omega))
open PySem PySem.Spec PyProof.Rows L2 VS
def clT : B := match c__law_case_late with
  | .cons _ (.cons _ (.cons _ b)) => b
  | _ => .nil
theorem cl_tail {n : Nat} {xs : List D} {D0 : D} {w a P c C : Option D} (hx : isI xs) (hC : CaseOk 4 D0) :
    ∃ D, CaseOk 40 D ∧ ∃ ys, isI ys ∧ ∃ e, evBl T (callF T (n + 4)) clT [some (.lst true xs), w, some D0, a, none, P, c, C] = .rt D (some (.lst true ys) :: e) := by
  obtain ⟨t, sz, u, d, m, p, tn, rfl, g⟩ := hC
  have t4 := g.t4
  obtain ⟨v, ys, h1, h2, h3, h4⟩ := L_take (n := n + 3) (k := 3) hx (by omega)
  obtain ⟨j, rfl⟩ := Int.eq_ofNat_of_zero_le h1
  simp -implicitDefEqProofs -dsimp (disch := trivial) [clT, c__law_case_late, h4]
  generalize hr : forC _ _ _ _ _ _ _ = res
  have key := forC_run hr (fun k v => ∃ xs D0 a C, isI xs ∧ (∃ sz u d m p tn, D0 = caseD t sz u d m p tn ∧ Kpt t sz u d m p (4 + k)) ∧ v = [some (.lst true xs), w, some D0, some (.int t), a, P, c, C]) ⟨_, _, _, _, h3, ⟨_, _, _, _, _, _, rfl, g⟩, rfl⟩ ?_
  · obtain ⟨_, rfl, xs, _, a, C, hx2, ⟨sz, u, d, m, p, tn, rfl, g⟩, rfl⟩ := key
    clear hr h4
    obtain ⟨v, zs, g1, g2, g3, g4⟩ := L_take (n := n + 3) (k := 4) hx2 (by omega)
    have hex := L_exchanged (n := n + 3) (t := t) (s1 := sz) (u1 := u) (d1 := d) (m := m) (p := p) (n1 := tn)
    have hj : 4 + j ≤ 40 := by omega
    by_cases h5 : v = 3
    · subst h5
      refine ⟨caseD t sz d u m p tn, CaseOk.mono ⟨t, sz, d, u, m, p, tn, rfl, g.exch⟩ hj, zs, g3, ?_⟩
      simp -implicitDefEqProofs -dsimp (disch := trivial) [g4, hex]
    · refine ⟨caseD t sz u d m p tn, CaseOk.mono ⟨t, sz, u, d, m, p, tn, rfl, g⟩ hj, zs, g3, ?_⟩
      simp -implicitDefEqProofs -dsimp (disch := trivial) [g4, h5]
  · rintro k _ hk ⟨xs, D0, a, C, hx2, hC, rfl⟩
    exact cl_step2 hx2 hC (show 4 + k ≤ 20 by omega)
end Lw
set_option Elab.async false
set_option linter.all false
set_option maxRecDepth 100000
set_option maxHeartbeats 4000000
namespace Lw
local macro_rules | `(tactic| trivial) => `(tactic| first | omega | (simp; done) | (simp; omega))
open PySem PySem.Spec PyProof.Rows L2 VS
def clI : S := match c__law_case_late with
  | .cons _ (.cons _ (.cons s _)) => s
  | _ => .never
theorem gain_one {m s : Nat} {p : Nat → Int × Int} (h : ∀ i, pairAt m p i = (1, 1)) : ∀ k, gainF m p s k = k
  | 0 => rfl
  | k + 1 => by
    show (pairAt m p (s + k)).1 * gainF m p s k + (pairAt m p (s + k)).2 = _
    rw [h, gain_one h k]; simp
theorem may_one {m s k : Nat} {p : Nat → Int × Int} (h : ∀ i, pairAt m p i = (1, 1)) : mayStart m p s k = .bl true := by
  rcases may_cases (m := m) (p := p) (s := s) (k := k) with e | e
  · exact e
  · exfalso
    unfold mayStart at e
    cases hf : (List.range k).findSome? (msQ m p s) with
    | none => rw [hf] at e; simp at e
    | some d =>
      obtain ⟨j, _, hj⟩ := List.exists_of_findSome?_eq_some hf
      unfold msQ at hj
      rw [gain_one h, if_neg (by omega), if_neg (by omega)] at hj
      cases hj
theorem cl_if {n : Nat} {xs : List D} {D0 : D} {w : Int} (hx : isI xs) (hC : CaseOk 4 D0) (h : 5 ≤ w) :
    ∃ v, evS T (callF T (n + 4)) clI [some (.lst true xs), some (.int w), some D0, none, none, none, none, none] = .nx v ∧ ∃ xs D0 a P c, isI xs ∧ CaseOk 4 D0 ∧ v = [some (.lst true xs), some (.int w), some D0, a, none, P, c, none] := by
  obtain ⟨v, ys, h1, h2, h3, h4⟩ := L_take (n := n + 3) (k := 3) hx (by omega)
  obtain ⟨j, rfl⟩ := Int.eq_ofNat_of_zero_le h1
  have hj : j < 3 := by omega
  have e2 : (2 : Int) + j = ((2 + j : Nat) : Int) := by omega
  have hrg : rangeD 0 (2 + (j : Int)) = ln (2 + j) fun k => .int k := by rw [e2]; exact rangeD_nat (2 + j)
  have hone : ∀ i, pairAt (2 + j) (fun _ => ((1, 1) : Int × Int)) i = (1, 1) := fun i => by unfold pairAt; split <;> rfl
  have hp1 : ∀ i, 0 ≤ (pairAt (2 + j) (fun _ => ((1, 1) : Int × Int)) i).1 ∧ (pairAt (2 + j) (fun _ => ((1, 1) : Int × Int)) i).1 ≤ 2 ∧ -3 ≤ (pairAt (2 + j) (fun _ => ((1, 1) : Int × Int)) i).2 ∧ (pairAt (2 + j) (fun _ => ((1, 1) : Int × Int)) i).2 ≤ 3 := fun i => by rw [hone]; simp
  have e0 : ((0 : Nat) : Int) = 0 := rfl
  have ch := fun (m : Nat) (p : Nat → Int × Int) (hm : m ≤ 100) (hp : ∀ i, 0 ≤ (pairAt m p i).1 ∧ (pairAt m p i).1 < 2 ^ 64) => L_chain (n := n + 1) (s := 0) (t := 2 + j) (m := m) (p := p) (by omega) (by omega) hm hp
  rw [e0, ← e2] at ch
  have ch1 := ch (2 + j) (fun _ => (1, 1)) (by omega) (fun i => by rw [hone]; simp)
  rw [cdz_tb (by omega)] at ch1
  have k1 := chain_kept (s := 0) (t := 2 + j) (m := 2 + j) (p := fun _ => (1, 1)) (by omega) (by omega) (by omega) (by omega) hp1 (may_one hone)
  simp -implicitDefEqProofs -dsimp (disch := trivial) [clI, c__law_case_late, h4, h, hrg]
  generalize hr : forC _ _ _ _ _ _ _ = res
  have key := forC_run hr (fun k v => ∃ (xs : List D) (p : Nat → Int × Int) (a : Option D), fzO a = true ∧ isI xs ∧ (∀ i, i < k → 0 ≤ (p i).1 ∧ (p i).1 ≤ 2 ∧ -3 ≤ (p i).2 ∧ (p i).2 ≤ 3) ∧ v = [some (.lst true xs), some (.int w), some D0, some (.int (2 + j)), none, some (.lst true (ln k fun i => prD (p i))), a, none]) ⟨_, fun _ => (1, 1), none, rfl, h3, fun i hi => by omega, rfl⟩ ?_
  · obtain ⟨_, rfl, xs, p, a, ha, hx2, hp, rfl⟩ := key
    clear hr
    have hpp : ∀ i, 0 ≤ (pairAt (2 + j) p i).1 ∧ (pairAt (2 + j) p i).1 ≤ 2 ∧ -3 ≤ (pairAt (2 + j) p i).2 ∧ (pairAt (2 + j) p i).2 ≤ 3 := fun i => by
      unfold pairAt
      split
      · exact hp i (by assumption)
      · simp
    have hp2 : ∀ i, 0 ≤ (pairAt (2 + j) p i).1 ∧ (pairAt (2 + j) p i).1 < 2 ^ 64 := fun i => by have := hpp i; omega
    have ch2 := ch (2 + j) p (by omega) hp2
    rw [cdz_tb (by omega)] at ch2
    have hms := L_may_start (n := n + 1) (s := 0) (t := 2 + j) (m := 2 + j) (p := p) (by omega) (by omega) hp2
    rw [e0, ← e2] at hms
    simp -implicitDefEqProofs -dsimp (disch := trivial) [hrg, ha]
    rw [compC_run (fun _ => prD (1, 1))]
    · rcases may_cases (m := 2 + j) (p := p) (s := 0) (k := 2 + j - 0) with hb | hb
      · rw [hb] at hms
        simp -implicitDefEqProofs -dsimp (disch := trivial) [hms, ch1, ch2]
        have k2 := chain_kept (s := 0) (t := 2 + j) (m := 2 + j) (p := p) (by omega) (by omega) (by omega) (by omega) hpp hb
        exact ⟨hx2, CaseOk.mono ⟨_, _, _, _, _, _, fun _ k => (k : Int), rfl, k2⟩ (by omega)⟩
      · rw [hb] at hms
        simp -implicitDefEqProofs -dsimp (disch := trivial) [hms, ch1]
        exact ⟨hx2, CaseOk.mono ⟨_, _, _, _, _, _, fun _ k => (k : Int), rfl, k1⟩ (by omega)⟩
    · intro k hk
      simp -implicitDefEqProofs -dsimp (disch := trivial)
    · simp; omega
  · rintro k _ hk ⟨xs, p, a, _, hx2, hp, rfl⟩
    exact cl_step1 (b := none) hx2 (by omega) hp
end Lw
set_option Elab.async false
set_option linter.all false
set_option maxRecDepth 100000
set_option maxHeartbeats 4000000
namespace Lw
local macro_rules | `(tactic| trivial) => `(tactic| first | omega | (simp; done) | (simp; omega))
open PySem PySem.Spec PyProof.Rows L2 VS
theorem L_case {n : Nat} {xs : List D} (hx : isI xs) : ∃ R, CaseOk 40 R ∧ ∃ ys, isI ys ∧ callF T (n + 5) f__law_case_late [.lst true xs] = .ok R (some (.lst true ys)) := by
  rw [run__law_case_late (z := .non) (by simp)]
  obtain ⟨w, ys, h1, h2, h3, h4⟩ := L_take (n := n + 3) (k := 8) hx (by omega)
  obtain ⟨a, k, hk, rfl, d, hd, hm⟩ := L_menu (n := n + 2) (w := w % 5) (by omega) (by omega)
  have hd5 := binD_mod (a := w) (b := 5) (by omega)
  have hC : CaseOk 4 (mnC (menu k)) := ⟨_, _, _, _, _, _, _, rfl, mn_kept (menu_ok k hk)⟩
  have e1 : evBl T (callF T (n + 4)) c__law_case_late [some (.lst true xs), none, none, none, none, none, none, none] = seqB T (callF T (n + 4)) (evS T (callF T (n + 4)) clI [some (.lst true ys), some (.int w), some (mnC (menu k)), none, none, none, none, none]) clT := by
    have : c__law_case_late = .cons (.asg 1 (.frz (.call f__law_take (Es.cons (.var 0) (Es.cons (.con (.int 8)) Es.nil)) [] Es.nil))) (.cons (.asg 2 (.frz (.call f__law_menu_unlike (Es.cons (.bin .mod (.blt .int (Es.cons (.var 1) Es.nil)) (.con (.int 5))) Es.nil) [] Es.nil))) (.cons clI clT)) := rfl
    rw [this]
    generalize clI = s1
    generalize clT = s2
    simp -implicitDefEqProofs -dsimp (disch := trivial) [h4, hd5, hm, hd]
  rw [e1]
  by_cases h5 : 5 ≤ w
  · obtain ⟨v, ev, xs2, D0, a, P, c, hx2, hC2, rfl⟩ := cl_if (n := n) (D0 := mnC (menu k)) h3 hC h5
    obtain ⟨R, hD, zs, hz, e, he⟩ := cl_tail (n := n) (w := some (.int w)) (a := a) (P := P) (c := c) (C := none) hx2 hC2
    exact ⟨R, hD, zs, hz, by rw [ev, seqB_nx, he]; simp⟩
  · have e2 : evS T (callF T (n + 4)) clI [some (.lst true ys), some (.int w), some (mnC (menu k)), none, none, none, none, none] = .nx [some (.lst true ys), some (.int w), some (mnC (menu k)), none, none, none, none, none] := by
      simp -implicitDefEqProofs -dsimp (disch := trivial) [clI, c__law_case_late, h5]
    obtain ⟨R, hD, zs, hz, e, he⟩ := cl_tail (n := n) (w := some (.int w)) (a := none) (P := none) (c := none) (C := none) h3 hC
    exact ⟨R, hD, zs, hz, by rw [e2, seqB_nx, he]; simp⟩
end Lw
set_option Elab.async false
set_option linter.all false
set_option maxRecDepth 100000
set_option maxHeartbeats 4000000
namespace Lw
local macro_rules | `(tactic| trivial) => `(tactic| first | omega | (simp; done) | (simp; omega))
open PySem PySem.Spec PyProof.Rows L2 VS
/-- where a row fails -/
def failsL (h : Nat) (over due : Nat → Nat → Int) (x : Nat) : List D := ((List.range h).filter fun z => decide (over x z ≠ due x z)).map fun z => D.int (z : Nat)
theorem fails_s {h x : Nat} {over due : Nat → Nat → Int} : failsL (h + 1) over due x = failsL h over due x ++ if over x h ≠ due x h then [.int h] else [] := by
  unfold failsL
  rw [List.range_succ, List.filter_append, List.map_append]
  by_cases e : over x h = due x h <;> simp [e]
theorem fails_len {h x : Nat} {over due : Nat → Nat → Int} : (failsL h over due x).length ≤ h := by
  unfold failsL
  rw [List.length_map]
  exact Nat.le_trans (List.length_filter_le _ _) (by simp)
theorem L_fails {n h x : Nat} {over under : Nat → Nat → Int} {q r : Int} (hh : h ≤ 100) (hx : x < h) (hq : -(2 ^ 64) < q ∧ q < 2 ^ 64) : callF T (n + 1) f__law_fails [tT h h over, tT h h under, prD (q, r), .int x] = .ok (.lst true (failsL h over (dueT q r under) x)) none := by
  rw [run__law_fails (by simp)]
  simp -implicitDefEqProofs -dsimp (disch := trivial) [c__law_fails]
  generalize hr : forC _ _ _ _ _ _ _ = res
  have key := forC_run hr (fun k e => ∃ a b, e = [some (tT h h over), some (tT h h under), some (prD (q, r)), some (.int x), some (.lst true (failsL k over (dueT q r under) x)), a, b]) ⟨_, _, rfl⟩ ?_
  · obtain ⟨_, rfl, a, b, rfl⟩ := key
    simp -implicitDefEqProofs -dsimp (disch := trivial)
  · rintro z _ hz ⟨a, b, rfl⟩
    clear hr
    have m := fun y : Int => binD_mul1 (a := q) (b := y) hq
    have hl := fails_len (h := z) (x := x) (over := over) (due := dueT q r under)
    rw [fails_s]
    by_cases hxz : x = z
    · subst hxz
      have e2 : dueT q r under x x = q * under x x + r := by unfold dueT; rw [if_pos rfl]
      by_cases hc : over x x = q * under x x + r
      · simp -implicitDefEqProofs -dsimp (disch := trivial) [m, e2, hc]
      · simp -implicitDefEqProofs -dsimp (disch := trivial) [m, e2, hc]
    · have e3 : ¬ (x : Int) = z := by omega
      have e2 : dueT q r under x z = q * under x z := by unfold dueT; rw [if_neg hxz, Int.add_zero]
      by_cases hc : over x z = q * under x z
      · simp -implicitDefEqProofs -dsimp (disch := trivial) [m, e2, hc, e3]
      · simp -implicitDefEqProofs -dsimp (disch := trivial) [m, e2, hc, e3]
end Lw
set_option Elab.async false
set_option linter.all false
set_option maxRecDepth 100000
set_option maxHeartbeats 4000000
namespace Lw
local macro_rules | `(tactic| trivial) => `(tactic| first | omega | (simp; done) | (simp; omega))
open PySem PySem.Spec PyProof.Rows L2 VS
/-- one entry greater -/
def incU (u : Nat → Nat → Nat → Int) (r0 x0 y0 : Nat) (N : Int) (r x y : Nat) : Int := if r = r0 ∧ x = x0 ∧ y = y0 then u r x y + N else u r x y
abbrev trD (r x y : Nat) : D := .tup [.int r, .int x, .int y]
theorem pr_of {m : Nat} {p : Nat → Int × Int} {P : Int × Int → Prop} (h : ∀ i, P (pairAt m p i)) : ∀ i, i < m → P (p i) := fun i hi => by
  have := h i
  unfold pairAt at this
  rwa [if_pos hi] at this
abbrev keptS : D := .lst false [.str [107, 101, 112, 116]]
section
variable {n t m : Nat} {sz : Nat → Nat} {u d : Nat → Nat → Nat → Int} {p : Nat → Int × Int} {tn : Nat → Nat → Int}
theorem upd3 {r0 x0 y0 : Nat} {N : Int} (hr : r0 < t) (hx : x0 < sz r0) (hy : y0 < sz (r0 + 1)) : updI (r0 : Int) (updI (x0 : Int) (VS.stI (y0 : Int) (.int (u r0 x0 y0 + N)))) (.lst true (ln t fun r => .lst true (ln (sz r) fun x => .lst true (ln (sz (r + 1)) fun y => .int (u r x y))))) =
    some (.lst true (ln t fun r => .lst true (ln (sz r) fun x => .lst true (ln (sz (r + 1)) fun y => .int (incU u r0 x0 y0 N r x y))))) := by
  rw [updI_ln hr, updI_ln hx, stI_ln hy]
  simp only [Option.map_some]
  congr 2
  refine ln_congr fun r _ => ?_
  by_cases h1 : r = r0
  · subst h1
    rw [if_pos rfl]
    congr 1
    refine ln_congr fun x _ => ?_
    by_cases h2 : x = x0
    · subst h2
      rw [if_pos rfl]
      congr 1
      refine ln_congr fun y _ => ?_
      by_cases h3 : y = y0
      · subst h3; rw [if_pos rfl]; unfold incU; rw [if_pos ⟨rfl, rfl, rfl⟩]
      · rw [if_neg h3]; unfold incU; rw [if_neg fun q => h3 q.2.2]
    · rw [if_neg h2]; unfold incU
      congr 1
      refine ln_congr fun y _ => ?_
      rw [if_neg fun q => h2 q.2.1]
  · rw [if_neg h1]; unfold incU
    congr 1
    refine ln_congr fun x _ => ?_
    congr 1
    refine ln_congr fun y _ => ?_
    rw [if_neg fun q => h1 q.1]
theorem L_more {r0 x0 y0 : Nat} {N : Int} (ht : t ≤ 90) (hs : ∀ r, sz r ≤ 50) (hr : r0 < t) (hx : x0 < sz r0) (hy : y0 < sz (r0 + 1)) : ∃ R, R.fz = caseD t sz (incU u r0 x0 y0 N) d m p tn ∧ callF T (n + 2) f__law_more [caseD t sz u d m p tn, trD r0 x0 y0, .int N] = .ok R none := by
  have cp := fun n f h w hh => L_copy (o := true) (o' := true) (n := n) (f := f) (h := h) (w := w) hh
  rw [run__law_more (by simp)]
  simp -implicitDefEqProofs -dsimp (disch := trivial) [c__law_more]
  rw [compC_run (fun r => .lst true (ln (sz r) fun x => .lst true (ln (sz (r + 1)) fun y => .int (u r x y))))]
  · simp -implicitDefEqProofs -dsimp (disch := trivial) [upd3 hr hx hy]
    rw [compC_run (fun r => .lst true (ln (sz r) fun x => .lst true (ln (sz (r + 1)) fun y => .int (d r x y))))]
    · simp -implicitDefEqProofs -dsimp (disch := trivial)
    · intro k hk
      have := hs k
      simp -implicitDefEqProofs -dsimp (disch := trivial) [cp]
    · simp; omega
  · intro k hk
    have := hs k
    simp -implicitDefEqProofs -dsimp (disch := trivial) [cp]
  · simp; omega
theorem L_first_ok (B : Bnd t sz u d) (hu : ∀ r x y, 0 ≤ u r x y) (hd : ∀ r x y, 0 ≤ d r x y) (hm : m ≤ 100) (hp : ∀ i, 0 ≤ (pairAt m p i).1 ∧ (pairAt m p i).1 < 2 ^ 64) (hk : ∀ r, r < t → keptAt sz u d m p r = none) :
    callF T (n + 6) f__law_first_kept [caseD t sz u d m p tn] = .ok keptS none := by
  rw [run__law_first_kept (by simp)]
  obtain ⟨m', h1, h2, hN⟩ := L_Numbers (n := n + 2) (m := m) (p := p) hm (pr_of (P := fun q => 0 ≤ q.1) fun i => (hp i).1)
  have hW := L_Web (n := n) (t := t) (sz := sz) (u := u) (d := d) B.t B.sz hu hd
  obtain ⟨fl, hK⟩ := L_Kept_ok (n := n) (m := m') (p := p) B (by omega) (fun i => by rw [h2]; exact hp i) (fun r hr => by have := hk r hr; unfold keptAt at this ⊢; rwa [h2])
  simp -implicitDefEqProofs -dsimp (disch := trivial) [c__law_first_kept, hW, hN, hK]
theorem L_first_ex {r x z : Nat} (B : Bnd t sz u d) (hu : ∀ r x y, 0 ≤ u r x y) (hd : ∀ r x y, 0 ≤ d r x y) (hm : m ≤ 100) (hp : ∀ i, 0 ≤ (pairAt m p i).1 ∧ (pairAt m p i).1 < 2 ^ 64) (hr : r < t) (hk : ∀ k, k < r → keptAt sz u d m p k = none) (hr2 : keptAt sz u d m p r = some (x, z)) :
    callF T (n + 6) f__law_first_kept [caseD t sz u d m p tn] = .ok (.lst false [.int r, .int x, .int z]) none := by
  rw [run__law_first_kept (by simp)]
  obtain ⟨m', h1, h2, hN⟩ := L_Numbers (n := n + 2) (m := m) (p := p) hm (pr_of (P := fun q => 0 ≤ q.1) fun i => (hp i).1)
  have hW := L_Web (n := n) (t := t) (sz := sz) (u := u) (d := d) B.t B.sz hu hd
  have hK := L_Kept_ex (n := n) (m := m') (p := p) (r := r) (x := x) (z := z) B (by omega) (fun i => by rw [h2]; exact hp i) hr (fun r hr => by have := hk r hr; unfold keptAt at this ⊢; rwa [h2]) (by unfold keptAt at hr2 ⊢; rwa [h2])
  simp -implicitDefEqProofs -dsimp (disch := trivial) [c__law_first_kept, hW, hN, hK]
  rw [evHs_hit rfl rfl rfl]
  simp -implicitDefEqProofs -dsimp (disch := trivial)
end
/-- spots of a web -/
def SpOk (t : Nat) (sz : Nat → Nat) (b : Nat) (xs : List D) : Prop := ∃ K s, K ≤ b ∧ (∀ i : Nat, i < K → ∃ r x y, s i = trD r x y ∧ r < t ∧ x < sz r ∧ y < sz (r + 1)) ∧ xs = ln K s
theorem SpOk.snoc {t : Nat} {sz : Nat → Nat} {b r x y : Nat} {xs : List D} (h : SpOk t sz b xs) (hr : r < t) (hx : x < sz r) (hy : y < sz (r + 1)) : SpOk t sz (b + 1) (xs ++ [trD r x y]) := by
  obtain ⟨K, s, h1, h2, rfl⟩ := h
  refine ⟨K + 1, fun i => if i < K then s i else trD r x y, by omega, fun i hi => ?_, ?_⟩
  · by_cases e : i < K
    · simp only [e, if_true]; exact h2 i e
    · simp only [e, if_false]; exact ⟨r, x, y, rfl, hr, hx, hy⟩
  · rw [ln_succ]
    simp only [Nat.lt_irrefl, if_false]
    congr 1
    exact ln_congr fun i hi => by simp only [hi, if_true]
theorem SpOk.mono {t : Nat} {sz : Nat → Nat} {b c : Nat} {xs : List D} (h : SpOk t sz b xs) (hc : b ≤ c) : SpOk t sz c xs := by
  obtain ⟨K, s, h1, h2, e⟩ := h
  exact ⟨K, s, by omega, h2, e⟩
theorem SpOk.len {t : Nat} {sz : Nat → Nat} {b : Nat} {xs : List D} (h : SpOk t sz b xs) : xs.length ≤ b := by
  obtain ⟨K, s, h1, h2, rfl⟩ := h
  simpa using h1
section
variable {n t m : Nat} {sz : Nat → Nat} {u d : Nat → Nat → Nat → Int} {p : Nat → Int × Int} {tn : Nat → Nat → Int}
theorem L_spots (ht : t ≤ 10) (hs : ∀ r, sz r ≤ 50) : ∃ xs, SpOk t sz 25000 xs ∧ callF T (n + 1) f__law_spots [caseD t sz u d m p tn] = .ok (.lst true xs) none := by
  rw [run__law_spots (by simp)]
  simp -implicitDefEqProofs -dsimp (disch := trivial) [c__law_spots]
  generalize hr : forC _ _ _ _ _ _ _ = res
  have key := forC_run hr (fun r e => ∃ xs a b c, SpOk t sz (r * 2500) xs ∧ e = [some (caseD t sz u d m p tn), some (.lst true xs), a, b, c]) ⟨_, _, _, _, ⟨0, fun _ => .non, by omega, fun i hi => by omega, rfl⟩, rfl⟩ ?_
  · obtain ⟨_, rfl, xs, a, b, c, hx, rfl⟩ := key
    simp -implicitDefEqProofs -dsimp (disch := trivial)
    exact hx.mono (by omega)
  · rintro r _ hrt ⟨xs, a, b, c, hx, rfl⟩
    clear hr
    have h1 := hs r
    have h2 := hs (r + 1)
    simp -implicitDefEqProofs -dsimp (disch := trivial)
    generalize hr : forC _ _ _ _ _ _ _ = res
    have key := forC_run hr (fun x e => ∃ xs b c, SpOk t sz (r * 2500 + x * 50) xs ∧ e = [some (caseD t sz u d m p tn), some (.lst true xs), some (.int r), b, c]) ⟨_, _, _, hx, rfl⟩ ?_
    · obtain ⟨_, rfl, xs, b, c, hx, rfl⟩ := key
      simp -implicitDefEqProofs -dsimp (disch := trivial)
      exact hx.mono (by omega)
    · rintro x _ hxs ⟨xs, b, c, hx, rfl⟩
      clear hr
      simp -implicitDefEqProofs -dsimp (disch := trivial)
      generalize hr : forC _ _ _ _ _ _ _ = res
      have key := forC_run hr (fun y e => ∃ xs c, SpOk t sz (r * 2500 + x * 50 + y) xs ∧ e = [some (caseD t sz u d m p tn), some (.lst true xs), some (.int r), some (.int x), c]) ⟨_, _, hx, rfl⟩ ?_
      · obtain ⟨_, rfl, xs, c, hx, rfl⟩ := key
        simp -implicitDefEqProofs -dsimp (disch := trivial)
        exact hx.mono (by omega)
      · rintro y _ hys ⟨xs, c, hx, rfl⟩
        clear hr
        have hl := hx.len
        simp -implicitDefEqProofs -dsimp (disch := trivial)
        exact hx.snoc hrt hxs hys
end
end Lw
set_option Elab.async false
set_option linter.all false
set_option maxRecDepth 100000
set_option maxHeartbeats 4000000
/-! one strand more: the mathematics -/
namespace Lw
open PySem PySem.Spec PyProof.Rows L2 VS
theorem sm_inc : ∀ {n : Nat} {f g : Nat → Int} {k : Nat} {c : Int}, k < n → (∀ i, i < n → g i = f i + if i = k then c else 0) → (ln n g).sum = (ln n f).sum + c
  | 0, _, _, _, _, h, _ => by omega
  | n + 1, f, g, k, c, h, hg => by
    rw [sm_succ, sm_succ]
    by_cases e : k = n
    · subst e
      rw [hg k (by omega), if_pos rfl, sm_congr (f := g) (g := f) fun i hi => by rw [hg i (by omega), if_neg (by omega), Int.add_zero]]
      omega
    · rw [sm_inc (n := n) (f := f) (g := g) (k := k) (c := c) (by omega) fun i hi => hg i (by omega), hg n (by omega), if_neg (by omega)]
      omega
section
variable {t m b : Nat} {sz : Nat → Nat} {u d : Nat → Nat → Nat → Int} {p : Nat → Int × Int} {r0 x0 y0 : Nat} {N : Int}
theorem abv_inc {r x z : Nat} (hy : y0 < sz (r0 + 1)) : abv sz (incU u r0 x0 y0 N) d r x z = abv sz u d r x z + if r = r0 ∧ x = x0 then N * d r0 z y0 else 0 := by
  rw [abv_s, abv_s]
  by_cases h : r = r0 ∧ x = x0
  · obtain ⟨rfl, rfl⟩ := h
    rw [if_pos ⟨rfl, rfl⟩]
    refine sm_inc hy fun i _ => ?_
    unfold incU
    by_cases e : i = y0
    · subst e
      rw [if_pos ⟨rfl, rfl, rfl⟩, if_pos rfl, Int.add_mul]
    · rw [if_neg fun q => e q.2.2, if_neg e, Int.add_zero]
  · rw [if_neg h, Int.add_zero]
    refine sm_congr fun i _ => ?_
    unfold incU
    rw [if_neg fun q => h ⟨q.1, q.2.1⟩]
theorem bel_inc {x z : Nat} : ∀ {r : Nat}, r ≤ r0 → bel sz (incU u r0 x0 y0 N) d r x z = bel sz u d r x z
  | 0, _ => rfl
  | r + 1, h => by
    rw [bel_s, bel_s]
    refine sm_congr fun i _ => ?_
    unfold incU
    rw [if_neg fun q => by omega]
/-- the places that a down strand from there reaches -/
def rchI (h : Nat) (f : Nat → Int) : List Int := ((List.range h).filter fun z => decide (0 < f z)).map fun (z : Nat) => (z : Int)
theorem fails_of {h x : Nat} {over due : Nat → Nat → Int} {c : Nat → Bool} (hc : ∀ z, z < h → (over x z ≠ due x z ↔ c z = true)) : failsL h over due x = (((List.range h).filter c).map fun (z : Nat) => (z : Int)).map D.int := by
  unfold failsL
  rw [List.map_map]
  have : (List.range h).filter (fun z => decide (over x z ≠ due x z)) = (List.range h).filter c := by
    refine List.filter_congr fun z hz => ?_
    have := hc z (List.mem_range.mp hz)
    cases hcz : c z with
    | true => exact decide_eq_true (this.mpr hcz)
    | false => exact decide_eq_false fun q => by rw [this.mp q] at hcz; cases hcz
  rw [this]
  rfl
theorem fs_only {α : Type} {v : Option α} {k : Nat} {F : Nat → Option α} : ∀ {m : Nat}, k < m → (∀ x, x < m → x ≠ k → F x = none) → (List.range m).findSome? F = F k
  | 0, h, _ => by omega
  | m + 1, h, hF => by
    rw [List.range_succ, List.findSome?_append]
    by_cases e : k = m
    · subst e
      have : (List.range k).findSome? F = none := List.findSome?_eq_none_iff.mpr fun x hx => hF x (by have := List.mem_range.mp hx; omega) (by have := List.mem_range.mp hx; omega)
      rw [this]
      cases hk : F k <;> simp [hk]
    · rw [fs_only (v := v) (k := k) (m := m) (by omega) fun x hx hxk => hF x (by omega) hxk]
      cases hk : F k with
      | some a => rfl
      | none => rw [List.findSome?_cons, hF m (by omega) (fun q => e q.symm)]; rfl
theorem fs_head {α β : Type} {c : α → Bool} {g : α → β} : ∀ l : List α, l.findSome? (fun z => if c z then some (g z) else none) = (l.filter c).head?.map g
  | [] => rfl
  | a :: l => by
    rw [List.findSome?_cons, List.filter_cons]
    cases h : c a with
    | true => simp
    | false => simp; simpa using fs_head (c := c) (g := g) l
theorem apart_none {m : Nat} {over due : Nat → Nat → Int} (h : ∀ x z, x < m → z < m → over x z = due x z) : apart m over due = none := by
  unfold apart
  refine List.findSome?_eq_none_iff.mpr fun x hx => List.findSome?_eq_none_iff.mpr fun z hz => ?_
  rw [if_neg]
  simpa using h x z (List.mem_range.mp hx) (List.mem_range.mp hz)
theorem apart_row {m x0 : Nat} {over due : Nat → Nat → Int} {f : Nat → Int} (hx : x0 < m) (h : ∀ x z, x < m → z < m → x ≠ x0 → over x z = due x z) (h0 : ∀ z, z < m → (over x0 z ≠ due x0 z ↔ 0 < f z)) : apart m over due = ((List.range m).filter fun z => decide (0 < f z)).head?.map fun z => (x0, z) := by
  unfold apart
  rw [fs_only (v := none) hx fun x hxm hne => List.findSome?_eq_none_iff.mpr fun z hz => by rw [if_neg]; simpa using h x z hxm (List.mem_range.mp hz) hne]
  rw [← fs_head (c := fun z => decide (0 < f z)) (g := fun z => (x0, z))]
  have : ∀ l : List Nat, (∀ z ∈ l, z < m) → l.findSome? (fun z => if over x0 z ≠ due x0 z then some (x0, z) else none) = l.findSome? fun z => if decide (0 < f z) = true then some (x0, z) else none := by
    intro l
    induction l with
    | nil => intro _; rfl
    | cons a l ih =>
      intro hl
      rw [List.findSome?_cons, List.findSome?_cons, ih fun z hz => hl z (List.mem_cons_of_mem _ hz)]
      have ha := h0 a (hl a List.mem_cons_self)
      by_cases q : 0 < f a
      · rw [if_pos (ha.mpr q), if_pos (decide_eq_true q)]
      · rw [if_neg (fun w => q (ha.mp w)), if_neg (fun w => q (of_decide_eq_true w))]
  exact this _ fun z hz => List.mem_range.mp hz
/-- where the equation fails behind the change -/
theorem inc_row (g : Kpt t sz u d m p b) (hr : r0 < t) (hy : y0 < sz (r0 + 1)) (hN : 0 < N) {x z : Nat} (hx : x < sz r0) (hz : z < sz r0) :
    (abv sz (incU u r0 x0 y0 N) d r0 x z ≠ dueT (pairAt m p r0).1 (pairAt m p r0).2 (bel sz (incU u r0 x0 y0 N) d r0) x z) ↔ x = x0 ∧ 0 < d r0 z y0 := by
  have e1 : dueT (pairAt m p r0).1 (pairAt m p r0).2 (bel sz (incU u r0 x0 y0 N) d r0) x z = dueT (pairAt m p r0).1 (pairAt m p r0).2 (bel sz u d r0) x z := by
    unfold dueT
    rw [bel_inc (Nat.le_refl _)]
  rw [e1, ← g.kept r0 hr x z hx hz, abv_inc hy]
  have hd := (g.d0 r0 z y0).1
  by_cases h : x = x0
  · rw [if_pos ⟨rfl, h⟩]
    constructor
    · intro q
      refine ⟨h, ?_⟩
      by_cases e : d r0 z y0 = 0
      · rw [e, Int.mul_zero, Int.add_zero] at q; exact absurd rfl q
      · omega
    · intro q
      have := Int.mul_pos hN q.2
      omega
  · rw [if_neg fun q => h q.2]
    constructor
    · intro q; rw [Int.add_zero] at q; exact absurd rfl q
    · intro q; exact absurd q.1 h
theorem inc_below (g : Kpt t sz u d m p b) (hr : r0 < t) (hy : y0 < sz (r0 + 1)) {r : Nat} (h : r < r0) : keptAt sz (incU u r0 x0 y0 N) d m p r = none := by
  refine apart_none fun x z hx hz => ?_
  have e1 : dueT (pairAt m p r).1 (pairAt m p r).2 (bel sz (incU u r0 x0 y0 N) d r) x z = dueT (pairAt m p r).1 (pairAt m p r).2 (bel sz u d r) x z := by
    unfold dueT
    rw [bel_inc (by omega)]
  rw [e1, ← g.kept r (by omega) x z hx hz, abv_inc hy, if_neg fun q => by omega, Int.add_zero]
theorem inc_at (g : Kpt t sz u d m p b) (hr : r0 < t) (hx : x0 < sz r0) (hy : y0 < sz (r0 + 1)) (hN : 0 < N) : keptAt sz (incU u r0 x0 y0 N) d m p r0 = ((List.range (sz r0)).filter fun z => decide (0 < d r0 z y0)).head?.map fun z => (x0, z) :=
  apart_row hx (fun x z hxm hz hne => by
    have := inc_row (x0 := x0) g hr hy hN hxm hz
    by_cases q : abv sz (incU u r0 x0 y0 N) d r0 x z = dueT (pairAt m p r0).1 (pairAt m p r0).2 (bel sz (incU u r0 x0 y0 N) d r0) x z
    · exact q
    · exact absurd (this.mp q).1 hne) fun z hz => (inc_row g hr hy hN hx hz).trans ⟨fun q => q.2, fun q => ⟨rfl, q⟩⟩
theorem kept_none (g : Kpt t sz u d m p b) {r : Nat} (h : r < t) : keptAt sz u d m p r = none := apart_none fun x z hx hz => g.kept r h x z hx hz
theorem kept_first (f : Nat → Option (Nat × Nat)) : ∀ t, (∀ r, r < t → f r = none) ∨ ∃ r x z, r < t ∧ f r = some (x, z) ∧ ∀ k, k < r → f k = none
  | 0 => .inl fun r h => by omega
  | t + 1 => by
    rcases kept_first f t with h | ⟨r, x, z, h1, h2, h3⟩
    · cases e : f t with
      | none =>
        refine .inl fun r hr => ?_
        by_cases q : r = t
        · subst q; exact e
        · exact h r (by omega)
      | some v => exact .inr ⟨t, v.1, v.2, by omega, e, h⟩
    · exact .inr ⟨r, x, z, by omega, h2, h3⟩
theorem inc_bnd (g : Kpt t sz u d m p b) (hb : b ≤ 50) (hN : 0 < N) (hN2 : N ≤ 1000000) : Bnd t sz (incU u r0 x0 y0 N) d where
  t := by have := g.t4; omega
  sz := fun r => by have := g.hs r; omega
  u := fun r x y => by
    have := g.u0 r x y
    unfold incU
    split <;> omega
  d := fun r x y => by have := g.d0 r x y; omega
theorem inc_pos (g : Kpt t sz u d m p b) (hN : 0 < N) (r x y : Nat) : 0 ≤ incU u r0 x0 y0 N r x y := by
  have := g.u0 r x y
  unfold incU
  split <;> omega
end
end Lw
set_option Elab.async false
set_option linter.all false
set_option maxRecDepth 100000
set_option maxHeartbeats 4000000
namespace Lw
local macro_rules | `(tactic| trivial) => `(tactic| first | omega | (simp; done) | (simp; omega))
open PySem PySem.Spec PyProof.Rows L2 VS
@[simp] theorem eqvs_refI {l : List Int} : D.eqvs (l.map D.int) (l.map D.int) = true := by rw [eqvs_ints]; exact decide_eq_true rfl
section
variable {n t m b : Nat} {sz : Nat → Nat} {u d : Nat → Nat → Nat → Int} {p : Nat → Int × Int} {tn : Nat → Nat → Int} {r0 x0 y0 : Nat} {N : Int}
theorem L_row_right (g : Kpt t sz u d m p b) (hb : b ≤ 40) (hr : r0 < t) (hx : x0 < sz r0) (hy : y0 < sz (r0 + 1)) (hN : 0 < N) (hN2 : N ≤ 1000000) :
    callF T (n + 7) f__law_row_right [webD t sz (incU u r0 x0 y0 N) d, caseD t sz u d m p tn, trD r0 x0 y0] = .ok (.bl true) none := by
  have B := inc_bnd (r0 := r0) (x0 := x0) (y0 := y0) g (by omega) hN hN2
  have hsr := g.hs r0
  have t4 := g.t4
  have hpr := g.hp r0
  have hA := L_above (n := n + 2) hr B
  have hBl := L_below (n := n + 2) (Nat.le_of_lt hr) B
  have hK := L_keeps (n := n) (q := (pairAt m p r0).1) (s := (pairAt m p r0).2) hr B (by omega) (by omega)
  have hBr := L_breach (n := n + 1) (q := (pairAt m p r0).1) (s := (pairAt m p r0).2) hr B (by omega) (by omega)
  have hP := L_pair (n := n + 5) (m := m) (p := p) (k := (r0 : Int)) (by omega)
  have hat := inc_at (x0 := x0) g hr hx hy hN
  unfold keptAt at hat
  rw [hat] at hK hBr
  simp only [Int.toNat_natCast] at hP
  rw [run__law_row_right (by simp)]
  simp -implicitDefEqProofs -dsimp (disch := trivial) [c__law_row_right, hP]
  rw [compC_if (fun z => .int (z : Nat)) (fun z => decide (0 < d r0 z y0))]
  · have hre : ((List.range (sz r0)).filter fun z => decide (0 < d r0 z y0)).map (fun z => D.int (z : Nat)) = (rchI (sz r0) fun z => d r0 z y0).map D.int := by
      unfold rchI; rw [List.map_map]; rfl
    rw [List.nil_append, hre]
    simp -implicitDefEqProofs -dsimp (disch := trivial) [hA, hBl]
    generalize hr' : forC _ _ _ _ _ _ _ = res
    have key := forC_run hr' (fun x e => ∃ a c, e = [some (webD t sz (incU u r0 x0 y0 N) d), some (caseD t sz u d m p tn), some (trD r0 x0 y0), some (.int r0), some (prD (pairAt m p r0)), some (.lst false ((rchI (sz r0) fun z => d r0 z y0).map D.int)), some (tT (sz r0) (sz r0) (abv sz (incU u r0 x0 y0 N) d r0)), some (tT (sz r0) (sz r0) (bel sz (incU u r0 x0 y0 N) d r0)), a, none, none, c, none]) ⟨_, _, rfl⟩ ?_
    · obtain ⟨_, rfl, a, c, rfl⟩ := key
      clear hr'
      cases hl : (List.range (sz r0)).filter fun z => decide (0 < d r0 z y0) with
      | nil =>
        have e : rchI (sz r0) (fun z => d r0 z y0) = [] := by unfold rchI; rw [hl]; rfl
        rw [hl] at hK hBr
        simp only [List.head?_nil, Option.map_none, pairD, Option.isNone_none] at hK hBr
        simp -implicitDefEqProofs -dsimp (disch := trivial) [e, hK, hBr]
      | cons z l =>
        have e : rchI (sz r0) (fun z => d r0 z y0) = (z : Int) :: (l.map fun (z : Nat) => (z : Int)) := by unfold rchI; rw [hl]; rfl
        rw [hl] at hK hBr
        simp only [List.head?_cons, Option.map_some, pairD, Option.isNone_some] at hK hBr
        simp -implicitDefEqProofs -dsimp (disch := trivial) [e, hK, hBr]
    · rintro x _ hxs ⟨a, c, rfl⟩
      clear hr'
      have hF := L_fails (n := n + 5) (h := sz r0) (x := x) (over := abv sz (incU u r0 x0 y0 N) d r0) (under := bel sz (incU u r0 x0 y0 N) d r0) (q := (pairAt m p r0).1) (r := (pairAt m p r0).2) (by omega) hxs (by omega)
      by_cases h : x = x0
      · subst h
        rw [fails_of (c := fun z => decide (0 < d r0 z y0)) fun z hz => (inc_row g hr hy hN hx hz).trans ⟨fun q => decide_eq_true q.2, fun q => ⟨rfl, of_decide_eq_true q⟩⟩] at hF
        have hF' : callF T (n + 6) f__law_fails [tT (sz r0) (sz r0) (abv sz (incU u r0 x y0 N) d r0), tT (sz r0) (sz r0) (bel sz (incU u r0 x y0 N) d r0), prD (pairAt m p r0), .int x] = .ok (.lst true ((rchI (sz r0) fun z => d r0 z y0).map D.int)) none := hF
        simp -implicitDefEqProofs -dsimp (disch := trivial) [hF']
      · have h2 : ¬ (x : Int) = x0 := by omega
        rw [fails_of (c := fun _ => false) fun z hz => (inc_row g hr hy hN hxs hz).trans ⟨fun q => absurd q.1 h, fun q => by cases q⟩] at hF
        have ef : ∀ l : List Nat, l.filter (fun _ => false) = [] := fun l => by induction l <;> simp_all
        rw [ef] at hF
        have hF' : callF T (n + 6) f__law_fails [tT (sz r0) (sz r0) (abv sz (incU u r0 x0 y0 N) d r0), tT (sz r0) (sz r0) (bel sz (incU u r0 x0 y0 N) d r0), prD (pairAt m p r0), .int x] = .ok (.lst true []) none := hF
        simp -implicitDefEqProofs -dsimp (disch := trivial) [hF', h2]
  · intro k hk
    have hd := (g.d0 r0 k y0).1
    simp -implicitDefEqProofs -dsimp (disch := trivial)
    split <;> rfl
  · simp; omega
end
end Lw
set_option Elab.async false
set_option linter.all false
set_option maxRecDepth 100000
set_option maxHeartbeats 8000000
namespace Lw
local macro_rules | `(tactic| trivial) => `(tactic| first | omega | (simp; done) | (simp; omega))
open PySem PySem.Spec PyProof.Rows L2 VS
@[simp] theorem can_kept : PyData.canLay0 (.str ⟨[107, 101, 112, 116].toArray⟩) = true := by kernel_rfl
theorem pickM {v : Int} (h : 0 ≤ v) (h2 : v < 4) : ∃ q, 0 < q ∧ q ≤ 1000000 ∧ ixD [.int 1, .int 1, .int 2, .int 1000000] v = some (.int q) := by
  have : v = 0 ∨ v = 1 ∨ v = 2 ∨ v = 3 := by omega
  rcases this with rfl | rfl | rfl | rfl
  · exact ⟨1, by decide, by decide, by simp⟩
  · exact ⟨1, by decide, by decide, by simp⟩
  · exact ⟨2, by decide, by decide, by simp⟩
  · exact ⟨1000000, by decide, by decide, by simp⟩
def lwB : B := match c_law with
  | .cons _ (.cons _ (.cons _ (.cons _ (.cons _ (.cons (.forS _ _ _ b) _))))) => b
  | _ => .nil
def lwR : B := match lwB with
  | .cons _ (.cons _ b) => b
  | _ => .nil
/-- the second half of a turn: the exchanged web -/
def lwX : B := match lwR with
  | .cons _ (.cons _ (.cons _ (.cons _ (.cons _ (.cons _ (.cons _ b)))))) => b
  | _ => .nil
/-- the middle: which rank fails -/
def lwM : B := match lwR with
  | .cons _ (.cons _ (.cons _ (.cons _ b))) => b
  | _ => .nil
def LwI (t : Nat) (s : D) (C : D) (sp : List D) (v : VE) : Prop := ∃ xs a4 a5 a6 a7 a8 a9 a10, isI xs ∧ v = [some s, some (.lst true xs), some C, some (.lst false sp), a4, a5, a6, a7, a8, a9, a10, none]
section
variable {n k t m : Nat} {sz : Nat → Nat} {u d : Nat → Nat → Nat → Int} {p : Nat → Int × Int} {tn : Nat → Nat → Int} {r0 x0 y0 : Nat} {N : Int} {xs sp : List D} {s : D} {a4 a6 a7 a8 a9 a10 : Option D}
theorem lw_x (hx : isI xs) (g : Kpt t sz u d m p 40) (hr : r0 < t) (hx0 : x0 < sz r0) (hy : y0 < sz (r0 + 1)) (hN : 0 < N) (hN2 : N ≤ 1000000) :
    nxI (evBl T (callF T (n + 8)) lwX [some s, some (.lst true xs), some (caseD t sz u d m p tn), some (.lst false sp), a4, some (trD r0 x0 y0), some (.int N), a7, a8, a9, a10, none]) (LwI t s (caseD t sz u d m p tn) sp) := by
  have t4 := g.t4
  have hs := g.hs
  have hex := L_exchanged (n := n + 7) (t := t) (s1 := sz) (u1 := u) (d1 := d) (m := m) (p := p) (n1 := tn)
  obtain ⟨R, hR, hM⟩ := L_more (n := n + 6) (t := t) (m := m) (sz := sz) (u := d) (d := u) (p := p) (tn := tn) (r0 := r0) (x0 := x0) (y0 := y0) (N := N) (by omega) (fun r => by have := hs r; omega) hr hx0 hy
  have hW := L_Web (n := n + 3) (t := t) (sz := sz) (u := incU d r0 x0 y0 N) (d := u) (by omega) (fun r => by have := hs r; omega) (inc_pos g.exch hN) (fun r x y => (g.u0 r x y).1)
  have hRR := L_row_right (n := n + 1) (tn := tn) (r0 := r0) (x0 := x0) (y0 := y0) (N := N) g.exch (by omega) hr hx0 hy hN hN2
  simp -implicitDefEqProofs -dsimp (disch := trivial) [lwX, lwR, lwB, c_law, hex, hM, hR, hW, hRR]
  exact ⟨_, _, _, _, _, _, _, _, hx, rfl⟩
theorem lw_m (hx : isI xs) (g : Kpt t sz u d m p 40) (hr : r0 < t) (hx0 : x0 < sz r0) (hy : y0 < sz (r0 + 1)) (hN : 0 < N) (hN2 : N ≤ 1000000) :
    nxI (evBl T (callF T (n + 8)) lwM [some s, some (.lst true xs), some (caseD t sz u d m p tn), some (.lst false sp), a4, some (trD r0 x0 y0), some (.int N), some (caseD t sz (incU u r0 x0 y0 N) d m p tn), a8, a9, a10, none]) (LwI t s (caseD t sz u d m p tn) sp) := by
  have t4 := g.t4
  have hs := g.hs
  have hsr := hs r0
  have hm := g.hm
  have B := inc_bnd (r0 := r0) (x0 := x0) (y0 := y0) g (by omega) hN hN2
  have hp2 : ∀ i, 0 ≤ (pairAt m p i).1 ∧ (pairAt m p i).1 < 2 ^ 64 := fun i => by have := g.hp i; omega
  have hat := inc_at (x0 := x0) g hr hx0 hy hN
  have hX := fun (a8 a9 : Option D) => lw_x (n := n) (tn := tn) (sp := sp) (s := s) (a4 := a4) (a7 := some (caseD t sz (incU u r0 x0 y0 N) d m p tn)) (a8 := a8) (a9 := a9) (a10 := a10) hx g hr hx0 hy hN hN2
  have e : lwM = .cons (.asg 9 (.frz (.call f__law_first_kept (Es.cons (.var 7) Es.nil) [] Es.nil))) (match lwM with | .cons _ (.cons a (.cons b _)) => .cons a (.cons b lwX) | _ => .nil) := rfl
  cases hl : (List.range (sz r0)).filter fun z => decide (0 < d r0 z y0) with
  | cons z l =>
    rw [hl] at hat
    have hF := L_first_ex (n := n + 2) (t := t) (tn := tn) B (inc_pos g hN) (fun r x y => (g.d0 r x y).1) (by omega) hp2 hr (fun k hk => inc_below g hr hy hk) hat
    rw [e]
    generalize lwX = X at hX ⊢
    simp -implicitDefEqProofs -dsimp (disch := trivial) [lwM, lwR, lwB, c_law, hF, can_kept]
    exact hX _ _
  | nil =>
    rw [hl] at hat
    rcases kept_first (fun r => keptAt sz (incU u r0 x0 y0 N) d m p r) t with h | ⟨r1, x1, z1, h1, h2, h3⟩
    · have hF := L_first_ok (n := n + 2) (t := t) (tn := tn) B (inc_pos g hN) (fun r x y => (g.d0 r x y).1) (by omega) hp2 h
      rw [e]
      generalize lwX = X at hX ⊢
      simp -implicitDefEqProofs -dsimp (disch := trivial) [lwM, lwR, lwB, c_law, hF, can_kept]
      rw [compC_if (fun z => rL (sz (r0 + 1)) (d r0 z)) (fun z => decide (0 < d r0 z y0))]
      · rw [hl]
        simp -implicitDefEqProofs -dsimp (disch := trivial)
        exact hX _ _
      · intro z hz
        simp -implicitDefEqProofs -dsimp (disch := trivial)
        split <;> simp -implicitDefEqProofs -dsimp (disch := trivial)
      · simp; omega
    · have hr1 : r0 < r1 := by
        by_cases q : r1 < r0
        · have := inc_below (x0 := x0) (N := N) g hr hy q
          rw [this] at h2; cases h2
        · by_cases q2 : r1 = r0
          · rw [q2, hat] at h2; cases h2
          · omega
      have hn1 : ¬ ((r1 : Int) < r0) := by omega
      have hF := L_first_ex (n := n + 2) (t := t) (tn := tn) B (inc_pos g hN) (fun r x y => (g.d0 r x y).1) (by omega) hp2 h1 h3 h2
      rw [e]
      generalize lwX = X at hX ⊢
      simp -implicitDefEqProofs -dsimp (disch := trivial) [lwM, lwR, lwB, c_law, hF, can_kept, hn1, hr1]
      rw [compC_if (fun z => rL (sz (r0 + 1)) (d r0 z)) (fun z => decide (0 < d r0 z y0))]
      · rw [hl]
        simp -implicitDefEqProofs -dsimp (disch := trivial)
        exact hX _ _
      · intro z hz
        simp -implicitDefEqProofs -dsimp (disch := trivial)
        split <;> simp -implicitDefEqProofs -dsimp (disch := trivial)
      · simp; omega
theorem lw_r (hx : isI xs) (g : Kpt t sz u d m p 40) (hr : r0 < t) (hx0 : x0 < sz r0) (hy : y0 < sz (r0 + 1)) :
    nxI (evBl T (callF T (n + 8)) lwR [some s, some (.lst true xs), some (caseD t sz u d m p tn), some (.lst false sp), a4, some (trD r0 x0 y0), a6, a7, a8, a9, a10, none]) (LwI t s (caseD t sz u d m p tn) sp) := by
  have t4 := g.t4
  have hs := g.hs
  obtain ⟨v, ys, h1, h2, h3, h4⟩ := L_take (n := n + 7) (k := 4) hx (by omega)
  obtain ⟨N, hN, hN2, hN3⟩ := pickM h1 h2
  obtain ⟨R, hR, hM⟩ := L_more (n := n + 6) (t := t) (m := m) (sz := sz) (u := u) (d := d) (p := p) (tn := tn) (r0 := r0) (x0 := x0) (y0 := y0) (N := N) (by omega) (fun r => by have := hs r; omega) hr hx0 hy
  have hW := L_Web (n := n + 3) (t := t) (sz := sz) (u := incU u r0 x0 y0 N) (d := d) (by omega) (fun r => by have := hs r; omega) (inc_pos g hN) (fun r x y => (g.d0 r x y).1)
  have hRR := L_row_right (n := n + 1) (tn := tn) (r0 := r0) (x0 := x0) (y0 := y0) (N := N) g (by omega) hr hx0 hy hN hN2
  have hX := fun (a8 : Option D) => lw_m (n := n) (tn := tn) (sp := sp) (s := s) (a4 := a4) (a8 := a8) (a9 := a9) (a10 := a10) h3 g hr hx0 hy hN hN2
  have e : lwR = (match lwR with | .cons a (.cons b (.cons c (.cons d _))) => .cons a (.cons b (.cons c (.cons d lwM))) | _ => .nil) := rfl
  rw [e]
  generalize lwM = X at hX ⊢
  simp -implicitDefEqProofs -dsimp (disch := trivial) [lwR, lwB, c_law, h4, hN3, pow_6, hM, hR, hW, hRR]
  exact hX _
theorem lw_step (hk : k < 2) (hx : isI xs) (g : Kpt t sz u d m p 40) (hsp : SpOk t sz 25000 sp) (hne : 0 < sp.length) {a5 : Option D} :
    nxI (fstepB T (callF T (n + 8)) lwB (setT [some s, some (.lst true xs), some (caseD t sz u d m p tn), some (.lst false sp), a4, a5, a6, a7, a8, a9, a10, none] [4] false (.int k))) (LwI t s (caseD t sz u d m p tn) sp) := by
  obtain ⟨K, q, h1, h2, rfl⟩ := hsp
  rw [ln_length] at hne
  have hq : ∀ i, i < K → (q i).isFz = true := fun i hi => by
    obtain ⟨r, x, y, e, _⟩ := h2 i hi
    rw [e]; rfl
  have hfz : D.allFz (ln K q) = true := allFz_ln hq
  obtain ⟨v, ys, g1, g2, g3, g4⟩ := L_take (n := n + 7) (k := (K : Int)) hx (by omega)
  obtain ⟨r, x, y, e1, e2, e3, e4⟩ := h2 v.toNat (by omega)
  have ei : ixD (ln K q) v = some (q v.toNat) := ixD_ln g1 g2
  rw [e1] at ei
  have e : lwB = (match lwB with | .cons a (.cons b _) => .cons a (.cons b lwR) | _ => .nil) := rfl
  rw [e]
  have hk2 : k = 0 ∨ k = 1 := by omega
  rcases hk2 with rfl | rfl
  · have hX := lw_r (n := n) (tn := tn) (sp := ln K q) (s := s) (a4 := some (.int 0)) (a6 := a6) (a7 := a7) (a8 := a8) (a9 := a9) (a10 := a10) g3 g e2 e3 e4
    generalize lwR = X at hX ⊢
    simp -implicitDefEqProofs -dsimp (disch := trivial) [lwB, c_law, g4, ei, hfz]
    exact hX
  · obtain ⟨v', zs, f1, f2, f3, f4⟩ := L_take (n := n + 7) (k := (K : Int)) g3 (by omega)
    obtain ⟨r, x, y, e1, e2, e3, e4⟩ := h2 ((K : Int) - 1 - v').toNat (by omega)
    have ei2 : ixD (ln K q) ((K : Int) - 1 - v') = some (q ((K : Int) - 1 - v').toNat) := ixD_ln (by omega) (by omega)
    rw [e1] at ei2
    have hX := lw_r (n := n) (tn := tn) (sp := ln K q) (s := s) (a4 := some (.int 1)) (a6 := a6) (a7 := a7) (a8 := a8) (a9 := a9) (a10 := a10) f3 g e2 e3 e4
    generalize lwR = X at hX ⊢
    simp -implicitDefEqProofs -dsimp (disch := trivial) [lwB, c_law, g4, f4, ei, ei2, hfz]
    exact hX
end
theorem L_law (ns : List Int) (hn : ns.length ≤ 63) : ∃ fin, callF T 31 f_law [.lst false (ns.map D.int)] = .ok (.bl true) fin := by
  rw [run_law (by simp)]
  obtain ⟨f, e0⟩ : ∃ f : Nat → Int, ns.map D.int = ln ns.length fun i => .int (f i) := ⟨fun i => ns.getD i 0, by
    conv => lhs; rw [ln_of ns 0]
    simp⟩
  rw [e0]
  obtain ⟨xs, hx, hD⟩ := L_draws (n := 29) (k := ns.length) (f := f) hn
  obtain ⟨R, ⟨t, sz, u, d, m, p, tn, rfl, g⟩, ys, hy, hC⟩ := L_case (n := 25) hx
  have t4 := g.t4
  have hm := g.hm
  have hF := L_first_ok (n := 24) (t := t) (tn := tn) ⟨by omega, fun r => by have := g.hs r; omega, fun r x y => by have := g.u0 r x y; omega, fun r x y => by have := g.d0 r x y; omega⟩ (fun r x y => (g.u0 r x y).1) (fun r x y => (g.d0 r x y).1) (by omega) (fun i => by have := g.hp i; omega) (fun r hr => kept_none g hr)
  obtain ⟨sp, hs, hS⟩ := L_spots (n := 29) (t := t) (sz := sz) (u := u) (d := d) (m := m) (p := p) (tn := tn) (by omega) (fun r => by have := g.hs r; omega)
  have hfz : D.fzs sp = sp := by
    obtain ⟨K, q, _, h2, rfl⟩ := hs
    rw [fzs_ln]
    exact ln_congr fun i hi => by
      obtain ⟨r, x, y, e, _⟩ := h2 i hi
      rw [e]; rfl
  have e : c_law = (match c_law with | .cons a (.cons b (.cons c (.cons d (.cons e (.cons (.forS x y z _) f))))) => .cons a (.cons b (.cons c (.cons d (.cons e (.cons (.forS x y z lwB) f))))) | _ => .nil) := rfl
  rw [e]
  have hstep := fun k hk xs a4 a5 a6 a7 a8 a9 a10 hx hne => lw_step (n := 22) (k := k) (t := t) (xs := xs) (s := .lst false (ln ns.length fun i => .int (f i))) (tn := tn) (a4 := a4) (a5 := a5) (a6 := a6) (a7 := a7) (a8 := a8) (a9 := a9) (a10 := a10) hk hx g hs hne
  generalize lwB = X at hstep ⊢
  have r2 : rangeD 0 2 = ln 2 fun k => .int k := rangeD_nat 2
  by_cases h0 : sp = []
  · subst h0
    simp -implicitDefEqProofs -dsimp (disch := trivial) [c_law, hD, hC, hF, hS, can_kept]
  · have hne : 0 < sp.length := List.length_pos_iff.mpr h0
    have hne2 : ¬ (sp.length : Int) = 0 := by omega
    simp -implicitDefEqProofs -dsimp (disch := trivial) [c_law, hD, hC, hF, hS, can_kept, hfz, h0, r2]
    generalize hr : forC _ _ _ _ _ _ _ = res
    have key := forC_run hr (fun _ v => LwI t (.lst false (ln ns.length fun i => .int (f i))) (caseD t sz u d m p tn) sp v) ⟨_, _, _, _, _, _, _, _, hy, rfl⟩ ?_
    · obtain ⟨_, rfl, xs, a4, a5, a6, a7, a8, a9, a10, hx, rfl⟩ := key
      simp -implicitDefEqProofs -dsimp (disch := trivial)
    · rintro k _ hk ⟨xs, a4, a5, a6, a7, a8, a9, a10, hx, rfl⟩
      exact hstep k hk xs a4 a5 a6 a7 a8 a9 a10 hx hne
end Lw
theorem PySem.Challenge.cw_upsanddowns_k12_one_strand_more_holds : PySem.Challenge.rw_upsanddowns_k12_one_strand_more.Holds := by
  exact Lw.head Lw.L_law
