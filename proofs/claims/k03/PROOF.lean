import PyProof.Rows.All
import Wide.All
import OpenK.AllK
import Wide.FinOn
import HandS.ForMost
import HandS.ForExc
import HandS.Wide
import HandS.IsInst
import HandS.Zip
import HandS.Defaults
import HandS.Style
import HandS.Flow
import HandS.Conv
import HandS.RaiseMore
import HandS.SortInts
import HandS.SetFor
import HandS.NoneIn
import PySem.Challenge.RW_soldrises_k03_whom_a_good_goes_to
set_option Elab.async false
set_option linter.all false
set_option maxRecDepth 100000
set_option maxHeartbeats 4000000
namespace DL
open PySem L2

/-! ### 1. Trees: what a value is worth: plain data, or a thing of which this code alone holds the address -/
inductive Sh where
  | lst
  | tup
  | ins (C dx : Addr) (ns : List Str)

inductive T where
  | dat (d : PyData)
  | node (sh : Sh) (a : Addr) (ts : List T)
  | any

def Sh.ho : Sh → List V → HO
  | .lst, vs => .lst vs
  | .tup, vs => .tup vs
  | .ins C dx ns, vs => .ins C dx (ns.zip vs)
def Sh.more : Sh → List Addr
  | .ins _ dx _ => [dx]
  | _ => []
def Sh.ext (sh : Sh) (a : Addr) (H : Hp) : Prop := ∀ x ∈ sh.more, H x = some (.own a)

mutual
def T.owns : T → List Addr
  | .dat _ => []
  | .node sh a ts => a :: (sh.more ++ ownsL ts)
  | .any => []
def ownsL : List T → List Addr
  | [] => []
  | t :: ts => t.owns ++ ownsL ts
end
mutual
def T.frz : T → PyData
  | .dat d => d
  | .node .lst _ ts => .list (frzL ts)
  | .node .tup _ ts => .tuple (frzL ts)
  | .node (.ins _ _ _) _ _ => .none
  | .any => .none
def frzL : List T → List PyData
  | [] => []
  | t :: ts => t.frz :: frzL ts
end
mutual
def T.pln : T → Bool
  | .dat _ => true
  | .node .lst _ ts => plnL ts
  | .node .tup _ ts => plnL ts
  | .node (.ins _ _ _) _ _ => false
  | .any => false
def plnL : List T → Bool
  | [] => true
  | t :: ts => t.pln && plnL ts
end
mutual
def T.holds (K : PySem.W.Frag) (Hd H : Hp) : T → V → Prop
  | .dat d, v => Dp K Hd v d
  | .node sh a ts, v => v = .ref a ∧ ∃ vs, H a = some (sh.ho vs) ∧ sh.ext a H ∧ holdsL K Hd H ts vs
  | .any, _ => True
def holdsL (K : PySem.W.Frag) (Hd H : Hp) : List T → List V → Prop
  | [], vs => vs = []
  | t :: ts, vs => ∃ v r, vs = v :: r ∧ t.holds K Hd H v ∧ holdsL K Hd H ts r
end

section
variable {K : PySem.W.Frag}
theorem sql_mono {H H' : Hp} {a : Addr} {xs : List V} (e : Same H H') (h : SqL K H a xs) : SqL K H' a xs := e.seq h
theorem sqt_mono {H H' : Hp} {a : Addr} {xs : List V} (e : Same H H') (h : SqT K H a xs) : SqT K H' a xs := by
  rcases h with (h | ⟨o, h⟩) | h
  · exact .inl (.inl (e _ _ h))
  · exact .inl (.inr ⟨o, e _ _ h⟩)
  · exact .inr h
mutual
theorem dp_mono {H H' : Hp} (e : Same H H') : ∀ (d : PyData) (v : V), Dp K H v d → Dp K H' v d
  | .none, _, h => by cases h; exact .non
  | .bool b, _, h => by cases h; exact .bl b
  | .int i, _, h => by cases h; exact .int i
  | .str x, _, h => by cases h; exact .str x
  | .list ds, _, h => by
    cases h with
    | lst hs ha => exact .lst (sql_mono e hs) (dpAll_mono e ds _ ha)
  | .tuple ds, _, h => by
    cases h with
    | tup hs ha => exact .tup (sqt_mono e hs) (dpAll_mono e ds _ ha)
  | .dict _, _, h => by cases h
theorem dpAll_mono {H H' : Hp} (e : Same H H') : ∀ (ds : List PyData) (vs : List V), DpAll K H vs ds → DpAll K H' vs ds
  | [], _, h => by cases h; exact .nil
  | d :: ds, _, h => by
    cases h with
    | cons h1 h2 => exact .cons (dp_mono e d _ h1) (dpAll_mono e ds _ h2)
end
theorem Sh.ext_frame {sh : Sh} {a : Addr} {H H' : Hp} (h : sh.ext a H) (k : ∀ b ∈ sh.more, H' b = H b) : sh.ext a H' := fun x hx => by rw [k x hx]; exact h x hx
mutual
theorem holds_frame {Hd Hd' H H' : Hp} (e : Same Hd Hd') : ∀ (t : T) (v : V), (∀ a ∈ t.owns, H' a = H a) → t.holds K Hd H v → t.holds K Hd' H' v
  | .dat d, v, _, h => by
    simp only [T.holds] at h ⊢
    exact dp_mono e d v h
  | .node sh a ts, v, k, h => by
    simp only [T.holds] at h ⊢
    obtain ⟨h1, vs, h2, h3, h4⟩ := h
    simp only [T.owns, List.mem_cons, List.mem_append] at k
    exact ⟨h1, vs, by rw [k a (.inl rfl)]; exact h2, Sh.ext_frame h3 fun b hb => k b (.inr (.inl hb)), holdsL_frame e ts vs (fun b hb => k b (.inr (.inr hb))) h4⟩
  | .any, v, _, _ => by simp only [T.holds]
theorem holdsL_frame {Hd Hd' H H' : Hp} (e : Same Hd Hd') : ∀ (ts : List T) (vs : List V), (∀ a ∈ ownsL ts, H' a = H a) → holdsL K Hd H ts vs → holdsL K Hd' H' ts vs
  | [], vs, _, h => by
    simp only [holdsL] at h ⊢
    exact h
  | t :: ts, vs, k, h => by
    simp only [holdsL] at h ⊢
    obtain ⟨v, r, h1, h2, h3⟩ := h
    simp only [ownsL, List.mem_append] at k
    exact ⟨v, r, h1, holds_frame e t v (fun b hb => k b (.inl hb)) h2, holdsL_frame e ts r (fun b hb => k b (.inr hb)) h3⟩
end
mutual
theorem holds_dp {Hd H He : Hp} (e : Same Hd He) : ∀ (t : T) (v : V), t.pln = true → (∀ a ∈ t.owns, He a = H a) → t.holds K Hd H v → Dp K He v t.frz
  | .dat d, v, _, _, h => by
    simp only [T.holds] at h
    simp only [T.frz]
    exact dp_mono e d v h
  | .node .lst a ts, v, p, k, h => by
    simp only [T.holds] at h
    obtain ⟨h1, vs, h2, h3, h4⟩ := h
    simp only [T.owns, List.mem_cons, List.mem_append] at k
    simp only [T.pln] at p
    subst h1
    simp only [T.frz]
    exact .lst (.inl (.inl (by rw [k a (.inl rfl)]; exact h2))) (holdsL_dp e ts vs p (fun b hb => k b (.inr (.inr hb))) h4)
  | .node .tup a ts, v, p, k, h => by
    simp only [T.holds] at h
    obtain ⟨h1, vs, h2, h3, h4⟩ := h
    simp only [T.owns, List.mem_cons, List.mem_append] at k
    simp only [T.pln] at p
    subst h1
    simp only [T.frz]
    exact .tup (.inl (.inl (by rw [k a (.inl rfl)]; exact h2))) (holdsL_dp e ts vs p (fun b hb => k b (.inr (.inr hb))) h4)
  | .node (.ins _ _ _) a ts, v, p, _, _ => by simp [T.pln] at p
  | .any, v, p, _, _ => by simp [T.pln] at p
theorem holdsL_dp {Hd H He : Hp} (e : Same Hd He) : ∀ (ts : List T) (vs : List V), plnL ts = true → (∀ a ∈ ownsL ts, He a = H a) → holdsL K Hd H ts vs → DpAll K He vs (frzL ts)
  | [], vs, _, _, h => by
    simp only [holdsL] at h
    subst h
    exact .nil
  | t :: ts, vs, p, k, h => by
    simp only [holdsL] at h
    obtain ⟨v, r, h1, h2, h3⟩ := h
    subst h1
    simp only [ownsL, List.mem_append] at k
    simp only [plnL, Bool.and_eq_true] at p
    exact .cons (holds_dp e t v p.1 (fun b hb => k b (.inl hb)) h2) (holdsL_dp e ts r p.2 (fun b hb => k b (.inr hb)) h3)
end
mutual
theorem holds_tracked {Hd H : Hp} : ∀ (t : T) (v : V), t.holds K Hd H v → ∀ a ∈ t.owns, H a ≠ none
  | .dat d, v, _, a, ha => by simp [T.owns] at ha
  | .node sh a ts, v, h, b, hb => by
    simp only [T.holds] at h
    obtain ⟨h1, vs, h2, h3, h4⟩ := h
    simp only [T.owns, List.mem_cons, List.mem_append] at hb
    rcases hb with rfl | hb | hb
    · rw [h2]; simp
    · rw [h3 b hb]; simp
    · exact holdsL_tracked ts vs h4 b hb
  | .any, v, h, b, hb => by simp [T.owns] at hb
theorem holdsL_tracked {Hd H : Hp} : ∀ (ts : List T) (vs : List V), holdsL K Hd H ts vs → ∀ a ∈ ownsL ts, H a ≠ none
  | [], vs, _, a, ha => by simp [ownsL] at ha
  | t :: ts, vs, h, b, hb => by
    simp only [holdsL] at h
    obtain ⟨v, r, h1, h2, h3⟩ := h
    simp only [ownsL, List.mem_append] at hb
    rcases hb with hb | hb
    · exact holds_tracked t v h2 b hb
    · exact holdsL_tracked ts r h3 b hb
end
end

/-! ### 2. What is hidden -/
open Classical in
noncomputable def hide (B : Addr → Prop) (H : Hp) : Hp := fun a => if B a then none else H a
theorem hide_some {B : Addr → Prop} {H : Hp} {a : Addr} {o : HO} : hide B H a = some o ↔ ¬ B a ∧ H a = some o := by
  unfold hide
  by_cases h : B a <;> simp [h]
theorem hide_in {B : Addr → Prop} {H : Hp} {a : Addr} (h : ¬ B a) : hide B H a = H a := by
  unfold hide
  simp [h]
theorem same_hide {B B' : Addr → Prop} {H H' : Hp} : Same (hide B H) (hide B' H') ↔ ∀ a o, ¬ B a → H a = some o → ¬ B' a ∧ H' a = some o := by
  constructor
  · intro h a o hb e
    exact hide_some.mp (h a o (hide_some.mpr ⟨hb, e⟩))
  · intro h a o e
    obtain ⟨hb, e⟩ := hide_some.mp e
    exact hide_some.mpr (h a o hb e)

def ownsS : List (Option T) → List Addr
  | [] => []
  | none :: S => ownsS S
  | some t :: S => t.owns ++ ownsS S
def Bd (M : Addr → Prop) (S : List (Option T)) : Addr → Prop := fun a => M a ∨ a ∈ ownsS S
noncomputable abbrev hidS (M : Addr → Prop) (S : List (Option T)) (H : Hp) : Hp := hide (Bd M S) H

def slotsH (K : PySem.W.Frag) (Hd H : Hp) : List (Option T) → List (Option V) → Prop
  | [], [] => True
  | none :: S, _ :: σ => slotsH K Hd H S σ
  | some t :: S, v :: σ => (∃ x, v = some x ∧ t.holds K Hd H x) ∧ slotsH K Hd H S σ
  | [], _ :: _ => False
  | _ :: _, [] => False

structure Good (K : PySem.W.Frag) (M : Addr → Prop) (S : List (Option T)) (σ : St) (H : Hp) : Prop where
  sl : slotsH K (hidS M S H) H S σ
  nd : (ownsS S).Nodup
  dj : ∀ a ∈ ownsS S, ¬ M a
  tk : ∀ a, M a → H a ≠ none

def Step (M : Addr → Prop) (S : List (Option T)) (H : Hp) (S' : List (Option T)) (H' : Hp) : Prop :=
  (∀ a o, ¬ Bd M S a → H a = some o → ¬ Bd M S' a ∧ H' a = some o) ∧ ∀ a, M a → H' a = H a
theorem Step.same {M : Addr → Prop} {S S' : List (Option T)} {H H' : Hp} (h : Step M S H S' H') : Same (hidS M S H) (hidS M S' H') := same_hide.mpr h.1
theorem Step.refl {M : Addr → Prop} {S : List (Option T)} {H : Hp} : Step M S H S H := ⟨fun _ _ h e => ⟨h, e⟩, fun _ _ => rfl⟩
theorem Step.trans {M : Addr → Prop} {S S1 S2 : List (Option T)} {H H1 H2 : Hp} (h : Step M S H S1 H1) (k : Step M S1 H1 S2 H2) : Step M S H S2 H2 :=
  ⟨fun a o hb e => let ⟨x, y⟩ := h.1 a o hb e; k.1 a o x y, fun a ha => (k.2 a ha).trans (h.2 a ha)⟩
/-- less is owned behind -/
theorem Step.less {M : Addr → Prop} {S S1 S2 : List (Option T)} {H H1 : Hp} (h : Step M S H S1 H1) (k : ∀ a ∈ ownsS S2, a ∈ ownsS S1) : Step M S H S2 H1 :=
  ⟨fun a o hb e => let ⟨x, y⟩ := h.1 a o hb e; ⟨fun z => x (z.elim .inl fun z => .inr (k a z)), y⟩, h.2⟩

section
variable {K : PySem.W.Frag} {M : Addr → Prop} {S S' : List (Option T)} {σ σ' : St} {H H' Hd Hd' : Hp}
theorem slotsH_len : ∀ {S : List (Option T)} {σ : St}, slotsH K Hd H S σ → S.length = σ.length
  | [], [], _ => rfl
  | none :: S, _ :: σ, h => congrArg Nat.succ (slotsH_len (S := S) (σ := σ) h)
  | some t :: S, v :: σ, h => congrArg Nat.succ (slotsH_len (S := S) (σ := σ) h.2)
theorem slotsH_frame (e : Same Hd Hd') : ∀ {S : List (Option T)} {σ : St}, (∀ a ∈ ownsS S, H' a = H a) → slotsH K Hd H S σ → slotsH K Hd' H' S σ
  | [], [], _, _ => trivial
  | none :: S, _ :: σ, k, h => slotsH_frame (S := S) (σ := σ) e k h
  | some t :: S, v :: σ, k, h => by
    obtain ⟨⟨x, e1, h1⟩, h2⟩ := h
    simp only [ownsS, List.mem_append] at k
    exact ⟨⟨x, e1, holds_frame e t x (fun b hb => k b (.inl hb)) h1⟩, slotsH_frame (S := S) (σ := σ) e (fun b hb => k b (.inr hb)) h2⟩
theorem slotsH_get : ∀ {S : List (Option T)} {σ : St} {i : Nat} {t : T}, slotsH K Hd H S σ → S[i]? = some (some t) → ∃ x, σ[i]? = some (some x) ∧ t.holds K Hd H x
  | none :: S, _ :: σ, 0, t, _, e => by simp at e
  | none :: S, _ :: σ, i + 1, t, h, e => by simpa using slotsH_get (S := S) (σ := σ) (i := i) h (by simpa using e)
  | some u :: S, v :: σ, 0, t, h, e => by
    obtain ⟨⟨x, e1, h1⟩, h2⟩ := h
    simp at e
    subst e
    exact ⟨x, by simp [e1], h1⟩
  | some u :: S, v :: σ, i + 1, t, h, e => by simpa using slotsH_get (S := S) (σ := σ) (i := i) h.2 (by simpa using e)
  | [], [], i, t, _, e => by simp at e
theorem slotsH_set {t : T} {x : V} (hx : t.holds K Hd H x) : ∀ {S : List (Option T)} {σ : St} {i : Nat}, slotsH K Hd H S σ → slotsH K Hd H (S.set i (some t)) (σ.set i (some x))
  | [], [], i, h => by simpa using h
  | none :: S, _ :: σ, 0, h => ⟨⟨x, rfl, hx⟩, h⟩
  | none :: S, _ :: σ, i + 1, h => slotsH_set (S := S) (σ := σ) (i := i) hx h
  | some u :: S, v :: σ, 0, h => ⟨⟨x, rfl, hx⟩, h.2⟩
  | some u :: S, v :: σ, i + 1, h => ⟨h.1, slotsH_set (S := S) (σ := σ) (i := i) hx h.2⟩
theorem slotsH_none {w : Option V} : ∀ {S : List (Option T)} {σ : St} {i : Nat}, slotsH K Hd H S σ → slotsH K Hd H (S.set i none) (σ.set i w)
  | [], [], i, h => by simpa using h
  | none :: S, _ :: σ, 0, h => h
  | none :: S, _ :: σ, i + 1, h => slotsH_none (S := S) (σ := σ) (i := i) h
  | some u :: S, v :: σ, 0, h => h.2
  | some u :: S, v :: σ, i + 1, h => ⟨h.1, slotsH_none (S := S) (σ := σ) (i := i) h.2⟩
theorem slotsH_none' : ∀ {S : List (Option T)} {σ : St} {i : Nat}, slotsH K Hd H S σ → slotsH K Hd H (S.set i none) σ
  | [], [], i, h => by simpa using h
  | none :: S, _ :: σ, 0, h => h
  | none :: S, _ :: σ, i + 1, h => slotsH_none' (S := S) (σ := σ) (i := i) h
  | some u :: S, v :: σ, 0, h => h.2
  | some u :: S, v :: σ, i + 1, h => ⟨h.1, slotsH_none' (S := S) (σ := σ) (i := i) h.2⟩
theorem slotsH_set' {t : T} {x : V} (hx : t.holds K Hd H x) : ∀ {S : List (Option T)} {σ : St} {i : Nat}, σ[i]? = some (some x) → slotsH K Hd H S σ → slotsH K Hd H (S.set i (some t)) σ
  | [], [], i, _, h => by simpa using h
  | none :: S, v :: σ, 0, e, h => ⟨⟨x, by simpa using e, hx⟩, h⟩
  | none :: S, _ :: σ, i + 1, e, h => slotsH_set' (S := S) (σ := σ) (i := i) hx (by simpa using e) h
  | some u :: S, v :: σ, 0, e, h => ⟨⟨x, by simpa using e, hx⟩, h.2⟩
  | some u :: S, v :: σ, i + 1, e, h => ⟨h.1, slotsH_set' (S := S) (σ := σ) (i := i) hx (by simpa using e) h.2⟩
theorem slotsH_tracked : ∀ {S : List (Option T)} {σ : St}, slotsH K Hd H S σ → ∀ a ∈ ownsS S, H a ≠ none
  | [], [], _, a, ha => by simp [ownsS] at ha
  | none :: S, _ :: σ, h, a, ha => slotsH_tracked (S := S) (σ := σ) h a ha
  | some t :: S, v :: σ, h, a, ha => by
    obtain ⟨⟨x, e1, h1⟩, h2⟩ := h
    simp only [ownsS, List.mem_append] at ha
    rcases ha with ha | ha
    · exact holds_tracked t x h1 a ha
    · exact slotsH_tracked (S := S) (σ := σ) h2 a ha
theorem Good.tracked (g : Good K M S σ H) : ∀ a, Bd M S a → H a ≠ none := fun a ha => ha.elim (g.tk a) (slotsH_tracked g.sl a)

/-! ### 3. The lists of what is owned -/
theorem ownsS_append : ∀ (S U : List (Option T)), ownsS (S ++ U) = ownsS S ++ ownsS U
  | [], U => rfl
  | none :: S, U => ownsS_append S U
  | some t :: S, U => by simp only [List.cons_append, ownsS, ownsS_append S U, List.append_assoc]
theorem ownsS_none_sub : ∀ (S : List (Option T)) (i : Nat), (ownsS (S.set i none)).Sublist (ownsS S)
  | [], i => by simp
  | none :: S, 0 => List.Sublist.refl _
  | none :: S, i + 1 => ownsS_none_sub S i
  | some t :: S, 0 => List.sublist_append_right ..
  | some t :: S, i + 1 => (ownsS_none_sub S i).append_left _
theorem ownsS_some_perm (t : T) : ∀ (S : List (Option T)) (i : Nat), i < S.length → (ownsS (S.set i (some t))).Perm (t.owns ++ ownsS (S.set i none))
  | [], i, h => absurd h (Nat.not_lt_zero _)
  | none :: S, 0, _ => List.Perm.refl _
  | none :: S, i + 1, h => ownsS_some_perm t S i (Nat.lt_of_succ_lt_succ h)
  | some u :: S, 0, _ => List.Perm.refl _
  | some u :: S, i + 1, h => by
    have ih := ownsS_some_perm t S i (Nat.lt_of_succ_lt_succ h)
    show (u.owns ++ ownsS (S.set i (some t))).Perm (t.owns ++ (u.owns ++ ownsS (S.set i none)))
    refine (ih.append_left _).trans ?_
    rw [← List.append_assoc, ← List.append_assoc]
    exact List.perm_append_comm.append_right _
theorem ownsS_get_perm {t : T} : ∀ {S : List (Option T)} {i : Nat}, S[i]? = some (some t) → (ownsS S).Perm (t.owns ++ ownsS (S.set i none))
  | none :: S, 0, e => by simp at e
  | none :: S, i + 1, e => ownsS_get_perm (S := S) (i := i) (by simpa using e)
  | some u :: S, 0, e => by
    simp at e
    subst e
    exact List.Perm.refl _
  | some u :: S, i + 1, e => by
    have ih := ownsS_get_perm (S := S) (i := i) (by simpa using e)
    show (u.owns ++ ownsS S).Perm (t.owns ++ (u.owns ++ ownsS (S.set i none)))
    refine (ih.append_left _).trans ?_
    rw [← List.append_assoc, ← List.append_assoc]
    exact List.perm_append_comm.append_right _
  | [], i, e => by simp at e

/-! ### 4. Good changed -/
theorem same_less (k : ∀ a ∈ ownsS S', a ∈ ownsS S) : Same (hidS M S H) (hidS M S' H) := same_hide.mpr fun a o hb e => ⟨fun z => hb (z.elim .inl fun z => .inr (k a z)), e⟩
/-- the same heap, less owned -/
theorem Good.sub (g : Good K M S σ H) (k : ∀ a ∈ ownsS S', a ∈ ownsS S) (nd : (ownsS S').Nodup) (sl : slotsH K (hidS M S H) H S' σ') : Good K M S' σ' H :=
  ⟨slotsH_frame (same_less k) (fun _ _ => rfl) sl, nd, fun a ha => g.dj a (k a ha), g.tk⟩
theorem Good.forget (g : Good K M S σ H) (i : Nat) : Good K M (S.set i none) σ H :=
  g.sub (fun a ha => (ownsS_none_sub S i).subset ha) ((ownsS_none_sub S i).nodup g.nd) (slotsH_none' g.sl)
theorem Good.drop {t : Option T} {v : Option V} (g : Good K M (t :: S) (v :: σ) H) : Good K M S σ H := by
  cases t with
  | none => exact ⟨g.sl, g.nd, g.dj, g.tk⟩
  | some t =>
    refine g.sub (fun a ha => ?_) ?_ g.sl.2
    · simp only [ownsS, List.mem_append]; exact .inr ha
    · exact (List.nodup_append.mp g.nd).2.1
theorem drop_sub {t : Option T} : ∀ a ∈ ownsS S, a ∈ ownsS (t :: S) := fun a ha => by
  cases t with
  | none => exact ha
  | some t => simp only [ownsS, List.mem_append]; exact .inr ha
/-- a temporary put into a slot -/
theorem Good.put {t : T} {v : V} (g : Good K M (some t :: S) (some v :: σ) H) (i : Nat) (hi : i < S.length) : Good K M (S.set i (some t)) (σ.set i (some v)) H := by
  have p := ownsS_some_perm t S i hi
  have sb : ∀ a ∈ ownsS (S.set i (some t)), a ∈ ownsS (some t :: S) := fun a ha => by
    have := p.subset ha
    simp only [ownsS, List.mem_append] at this ⊢
    exact this.imp id fun z => (ownsS_none_sub S i).subset z
  obtain ⟨⟨x, e, hx⟩, h2⟩ := g.sl
  cases e
  refine g.sub sb ?_ (slotsH_set hx h2)
  exact p.nodup_iff.mpr (((ownsS_none_sub S i).append_left _).nodup g.nd)
theorem put_sub {t : T} {i : Nat} (hi : i < S.length) : ∀ a ∈ ownsS (S.set i (some t)), a ∈ ownsS (some t :: S) := fun a ha => by
  have := (ownsS_some_perm t S i hi).subset ha
  simp only [ownsS, List.mem_append] at this ⊢
  exact this.imp id fun z => (ownsS_none_sub S i).subset z
/-- a slot's tree taken out as a temporary -/
theorem Good.take {t : T} {i : Nat} (g : Good K M S σ H) (e : S[i]? = some (some t)) : ∃ v, σ[i]? = some (some v) ∧ Good K M (some t :: S.set i none) (some v :: σ) H := by
  have p := ownsS_get_perm e
  obtain ⟨x, e1, hx⟩ := slotsH_get g.sl e
  refine ⟨x, e1, g.sub (fun a ha => p.symm.subset ha) (p.nodup_iff.mp g.nd) ⟨⟨x, rfl, hx⟩, slotsH_none' g.sl⟩⟩
theorem take_sub {t : T} {i : Nat} (e : S[i]? = some (some t)) : ∀ a ∈ ownsS (some t :: S.set i none), a ∈ ownsS S := fun a ha => (ownsS_get_perm e).symm.subset ha
/-- .. and back, with another tree of the same value -/
theorem Good.back {t : T} {v : V} {i : Nat} (g : Good K M (some t :: S) (some v :: σ) H) (e : σ[i]? = some (some v)) : Good K M (S.set i (some t)) σ H := by
  have hl : S.length = σ.length := by have := slotsH_len g.sl; simpa using this
  have hi : i < S.length := by
    rw [hl]
    exact (List.getElem?_eq_some_iff.mp e).1
  have h := g.put i hi
  have e2 : σ.set i (some v) = σ := by
    apply List.ext_getElem? 
    intro j
    by_cases q : i = j
    · subst q
      rw [List.getElem?_set_self (by omega), e]
    · rw [List.getElem?_set_ne q]
  rw [e2] at h
  exact h
/-- what is a temporary becomes plain data -/
theorem Good.freeze {t : T} {v : V} (g : Good K M (some t :: S) (some v :: σ) H) (p : t.pln = true) : Good K M (some (.dat t.frz) :: S) (some v :: σ) H := by
  obtain ⟨⟨x, e, hx⟩, h2⟩ := g.sl
  cases e
  have nd := List.nodup_append.mp g.nd
  have sb : ∀ a ∈ ownsS (some (.dat t.frz) :: S), a ∈ ownsS (some t :: S) := fun a ha => by
    simp only [ownsS, T.owns, List.nil_append, List.mem_append] at ha ⊢
    exact .inr ha
  refine ⟨⟨⟨v, rfl, ?_⟩, slotsH_frame (same_less sb) (fun _ _ => rfl) h2⟩, by simpa [ownsS, T.owns] using nd.2.1, fun a ha => g.dj a (sb a ha), g.tk⟩
  simp only [T.holds]
  refine holds_dp (same_less sb) t v p (fun a ha => hide_in fun z => ?_) hx
  rcases z with z | z
  · exact g.dj a (by simp only [ownsS, List.mem_append]; exact .inl ha) z
  · simp only [ownsS, T.owns, List.nil_append] at z
    exact nd.2.2 a ha a z rfl
/-- a temporary read as data, now -/
theorem Good.dp {t : T} {v : V} (g : Good K M (some t :: S) (some v :: σ) H) (p : t.pln = true) : Dp K H v t.frz := by
  obtain ⟨⟨x, e, hx⟩, h2⟩ := g.sl
  cases e
  exact holds_dp (fun a o e => (hide_some.mp e).2) t v p (fun a ha => rfl) hx
/-- a temporary set apart: it is the frame's while other code runs -/
theorem Good.apart {t : T} {v : V} (g : Good K M (some t :: S) (some v :: σ) H) : Good K (fun a => M a ∨ a ∈ t.owns) S σ H := by
  obtain ⟨⟨x, e, hx⟩, h2⟩ := g.sl
  have nd := List.nodup_append.mp g.nd
  refine ⟨slotsH_frame (same_hide.mpr fun a o hb q => ⟨fun z => hb ?_, q⟩) (fun _ _ => rfl) h2, nd.2.1, fun a ha z => ?_, fun a ha => ?_⟩
  · simp only [Bd, ownsS, List.mem_append] at z ⊢
    rcases z with (z | z) | z
    · exact .inl z
    · exact .inr (.inl z)
    · exact .inr (.inr z)
  · rcases z with z | z
    · exact g.dj a (by simp only [ownsS, List.mem_append]; exact .inr ha) z
    · exact nd.2.2 a z a ha rfl
  · exact g.tracked a (ha.elim .inl fun z => .inr (by simp only [ownsS, List.mem_append]; exact .inl z))
/-- .. and joined again behind it: what came is one more temporary, or none -/
theorem Good.join {t : T} {v : V} {H1 : Hp} (g : Good K M (some t :: S) (some v :: σ) H) (g1 : Good K (fun a => M a ∨ a ∈ t.owns) S' σ' H1) (st : Step (fun a => M a ∨ a ∈ t.owns) S H S' H1) :
    Good K M (some t :: S') (some v :: σ') H1 ∧ Step M (some t :: S) H (some t :: S') H1 := by
  obtain ⟨⟨x, e, hx⟩, h2⟩ := g.sl
  cases e
  have nd := List.nodup_append.mp g.nd
  have iffS : ∀ U : List (Option T), ∀ a, Bd M (some t :: U) a ↔ Bd (fun a => M a ∨ a ∈ t.owns) U a := fun U a => by
    simp only [Bd, ownsS, List.mem_append]
    constructor
    · rintro (z | z | z)
      · exact .inl (.inl z)
      · exact .inl (.inr z)
      · exact .inr z
    · rintro ((z | z) | z)
      · exact .inl z
      · exact .inr (.inl z)
      · exact .inr (.inr z)
  have st' : Step M (some t :: S) H (some t :: S') H1 := ⟨fun a o hb q => by
    obtain ⟨q1, q2⟩ := st.1 a o (fun z => hb ((iffS _ a).mpr z)) q
    exact ⟨fun z => q1 ((iffS _ a).mp z), q2⟩, fun a ha => st.2 a (.inl ha)⟩
  refine ⟨⟨⟨⟨v, rfl, holds_frame st'.same t v (fun a ha => st.2 a (.inr ha)) hx⟩, slotsH_frame (same_hide.mpr fun a o hb q => ⟨fun z => hb ((iffS _ a).mp z), q⟩) (fun _ _ => rfl) g1.sl⟩, ?_, ?_, ?_⟩, st'⟩
  · refine List.nodup_append.mpr ⟨nd.1, g1.nd, fun a ha b hb q => ?_⟩
    subst q
    exact g1.dj a hb (.inr ha)
  · intro a ha z
    simp only [ownsS, List.mem_append] at ha
    rcases ha with ha | ha
    · exact g.dj a (by simp only [ownsS, List.mem_append]; exact .inl ha) z
    · exact g1.dj a ha (.inl z)
  · exact fun a ha => g1.tk a (.inl ha)
/-- a flat value beside -/
theorem Good.flat {d : PyData} {v : V} (g : Good K M S σ H) (h : Dp K (hidS M S H) v d) : Good K M (some (.dat d) :: S) (some v :: σ) H :=
  ⟨⟨⟨v, rfl, by simp only [T.holds]; exact h⟩, g.sl⟩, g.nd, g.dj, g.tk⟩
/-- two temporaries change places -/
theorem Good.swap {t u : T} {v w : V} (g : Good K M (some t :: some u :: S) (some v :: some w :: σ) H) : Good K M (some u :: some t :: S) (some w :: some v :: σ) H := by
  have e : ∀ a, a ∈ ownsS (some u :: some t :: S) ↔ a ∈ ownsS (some t :: some u :: S) := fun a => by
    simp only [ownsS, List.mem_append]
    constructor
    · rintro (z | z | z)
      · exact .inr (.inl z)
      · exact .inl z
      · exact .inr (.inr z)
    · rintro (z | z | z)
      · exact .inr (.inl z)
      · exact .inl z
      · exact .inr (.inr z)
  obtain ⟨h1, h2, h3⟩ := g.sl
  refine g.sub (fun a ha => (e a).mp ha) ?_ ⟨h2, h1, h3⟩
  have p : (ownsS (some u :: some t :: S)).Perm (ownsS (some t :: some u :: S)) := by
    show (u.owns ++ (t.owns ++ ownsS S)).Perm (t.owns ++ (u.owns ++ ownsS S))
    rw [← List.append_assoc, ← List.append_assoc]
    exact List.perm_append_comm.append_right _
  exact p.nodup_iff.mpr g.nd
theorem swap_sub {t u : T} : ∀ a ∈ ownsS (some u :: some t :: S), a ∈ ownsS (some t :: some u :: S) := fun a ha => by
  simp only [ownsS, List.mem_append] at ha ⊢
  rcases ha with z | z | z
  · exact .inr (.inl z)
  · exact .inl z
  · exact .inr (.inr z)
/-- something new is tracked, hidden from nobody -/
theorem Good.grow {p : Addr} {o : HO} (g : Good K M S σ H) (hp : H p = none) : Good K M S σ (upd H p o) ∧ Step M S H S (upd H p o) := by
  have ne : ∀ a, Bd M S a → a ≠ p := fun a ha z => g.tracked a ha (by rw [z]; exact hp)
  have st : Step M S H S (upd H p o) := ⟨fun a u hb q => ⟨hb, by rw [upd_ne (ne_of_none q hp)]; exact q⟩, fun a ha => upd_ne (ne a (.inl ha))⟩
  exact ⟨⟨slotsH_frame st.same (fun a ha => upd_ne (ne a (.inr ha))) g.sl, g.nd, g.dj, fun a ha => by rw [upd_ne (ne a (.inl ha))]; exact g.tk a ha⟩, st⟩
end
end DL
namespace DL
open PySem L2

/-! ### 5. Readings over trees -/
abbrev SS := List (Option T)
abbrev TD := SS → (T → SS → Prop) → Prop
abbrev TTD := SS → (Bool → SS → Prop) → Prop
abbrev TAD := SS → (List T → SS → Prop) → Prop
structure DE where
  nx : SS → Prop
  rt : T → SS → Prop
  bk : SS → Prop := fun _ => False
  ct : SS → Prop := fun _ => False
abbrev TSD := DE → SS → Prop
abbrev TGD := T → SS → (SS → Prop) → Prop

def up (K : PySem.W.Frag) (td : TD) : TE := fun σ H Q => ∃ (M : Addr → Prop) (S : SS) (Qd : T → SS → Prop), Good K M S σ H ∧ td S Qd ∧
  ∀ t S' v H', Qd t S' → Good K M (some t :: S') (some v :: σ) H' → Step M S H (some t :: S') H' → Q v H'
def upT (K : PySem.W.Frag) (td : TTD) : TT := fun σ H Q => ∃ (M : Addr → Prop) (S : SS) (Qd : Bool → SS → Prop), Good K M S σ H ∧ td S Qd ∧
  ∀ b S' H', Qd b S' → Good K M S' σ H' → Step M S H S' H' → Q b H'
def upA (K : PySem.W.Frag) (td : TAD) : TA := fun σ H Q => ∃ (M : Addr → Prop) (S : SS) (Qd : List T → SS → Prop), Good K M S σ H ∧ td S Qd ∧
  ∀ ts S' vs H', Qd ts S' → vs.length = ts.length → Good K M (ts.map some ++ S') (vs.map some ++ σ) H' → Step M S H (ts.map some ++ S') H' → Q vs H'
def upS (K : PySem.W.Frag) (td : TSD) : TS := fun D σ H => ∃ (M : Addr → Prop) (S : SS) (Dd : DE), Good K M S σ H ∧ td Dd S ∧
  (∀ S' σ' H', Dd.nx S' → Good K M S' σ' H' → Step M S H S' H' → D.nx σ' H') ∧
  (∀ t S' v σ' H', Dd.rt t S' → Good K M (some t :: S') (some v :: σ') H' → Step M S H (some t :: S') H' → D.rt v H') ∧
  (∀ S' σ' H', Dd.bk S' → Good K M S' σ' H' → Step M S H S' H' → D.bk σ' H') ∧
  (∀ S' σ' H', Dd.ct S' → Good K M S' σ' H' → Step M S H S' H' → D.ct σ' H')
def upG (K : PySem.W.Frag) (td : TGD) : TG := fun v σ H Q => ∃ (M : Addr → Prop) (t : T) (S : SS) (Qd : SS → Prop), Good K M (some t :: S) (some v :: σ) H ∧ td t S Qd ∧
  ∀ S' σ' H', Qd S' → Good K M S' σ' H' → Step M (some t :: S) H S' H' → Q σ' H'

abbrev PD (X : Cx) (e : Expr) (t : TD) : Prop := PE X e (up X.K t)
abbrev PTD (X : Cx) (e : Expr) (t : TTD) : Prop := PT X e (upT X.K t)
abbrev PWD (X : Cx) (e : Expr) (t : TTD) : Prop := PW X e (upT X.K t)
abbrev PAD (X : Cx) (es : List Expr) (t : TAD) : Prop := PA X es (upA X.K t)
abbrev PSD (X : Cx) (st : Stmt) (t : TSD) : Prop := PS X st (upS X.K t)
abbrev PSsD (X : Cx) (st : List Stmt) (t : TSD) : Prop := PSs X st (upS X.K t)
abbrev PGD (X : Cx) (e : Expr) (t : TGD) : Prop := PG X e (upG X.K t)

section
variable {X : Cx} {e : Expr} {es : List Expr} {st : Stmt} {sts : List Stmt}
theorem PE_imp {t t' : TE} (h : PE X e t) (k : ∀ σ H Q, t' σ H Q → t σ H Q) : PE X e t' := ⟨fun pins s σ H Q I w => h.run pins s σ H Q I (k _ _ _ w)⟩
theorem PT_imp {t t' : TT} (h : PT X e t) (k : ∀ σ H Q, t' σ H Q → t σ H Q) : PT X e t' := ⟨fun pins s σ H Q I w => h.run pins s σ H Q I (k _ _ _ w)⟩
theorem PW_imp {t t' : TT} (h : PW X e t) (k : ∀ σ H Q, t' σ H Q → t σ H Q) : PW X e t' := ⟨fun wh pins s σ H Q I w => h.run wh pins s σ H Q I (k _ _ _ w)⟩
theorem PA_imp {t t' : TA} (h : PA X es t) (k : ∀ σ H Q, t' σ H Q → t σ H Q) : PA X es t' := ⟨fun pos pins s σ H Q I w => h.run pos pins s σ H Q I (k _ _ _ w)⟩
theorem PS_imp {t t' : TS} (h : PS X st t) (k : ∀ D σ H, t' D σ H → t D σ H) : PS X st t' := ⟨fun pins s σ H D I w => h.run pins s σ H D I (k _ _ _ w)⟩
theorem PSs_imp {t t' : TS} (h : PSs X sts t) (k : ∀ D σ H, t' D σ H → t D σ H) : PSs X sts t' := ⟨fun pins s σ H D I w => h.run pins s σ H D I (k _ _ _ w)⟩
theorem PG_imp {t t' : TG} (h : PG X e t) (k : ∀ v σ H Q, t' v σ H Q → t v σ H Q) : PG X e t' := ⟨fun pins s σ H v u Q I r w => h.run pins s σ H v u Q I r (k _ _ _ _ w)⟩
end

/-! ### 6. Flat values, names -/
def fv : PyData → Option V
  | .none => some .non
  | .bool b => some (.bl b)
  | .int i => some (.int i)
  | .str x => some (.str x)
  | _ => none
theorem dp_fv {K : PySem.W.Frag} {H : Hp} {d : PyData} {u : V} (h : fv d = some u) : Dp K H u d := by
  cases d <;> simp [fv] at h <;> subst h
  · exact .non
  · exact .bl _
  · exact .int _
  · exact .str _
theorem Good.fv {K : PySem.W.Frag} {M : Addr → Prop} {S : SS} {σ : St} {H : Hp} {d : PyData} {u : V} (g : Good K M S σ H) (h : DL.fv d = some u) : Good K M (some (.dat d) :: S) (some u :: σ) H := g.flat (dp_fv h)
theorem step_flat {M : Addr → Prop} {S S' : SS} {H H' : Hp} {d : PyData} (h : Step M S H S' H') : Step M S H (some (.dat d) :: S') H' := h.less fun a ha => by simpa [ownsS, T.owns] using ha

def dC (d : PyData) : TD := fun S Q => Q (.dat d) S
theorem up_c {K : PySem.W.Frag} {v : V} {d : PyData} (h : fv d = some v) : ∀ σ H Q, up K (dC d) σ H Q → tC v σ H Q := fun σ H Q ⟨M, S, Qd, g, q, k⟩ =>
  k _ S v H q (g.fv h) (step_flat .refl)
def dVar (i : Nat) : TD := fun S Q => match S[i]? with
  | some (some t) => t.pln = true ∧ Q (.dat t.frz) (S.set i (some (.dat t.frz)))
  | _ => False
def dMv (i : Nat) : TD := fun S Q => match S[i]? with
  | some (some t) => Q t (S.set i none)
  | _ => False
theorem up_var {K : PySem.W.Frag} {i : Nat} : ∀ σ H Q, up K (dVar i) σ H Q → tVar i σ H Q := by
  rintro σ H Q ⟨M, S, Qd, g, q, k⟩
  unfold dVar at q
  split at q
  · next t e =>
    obtain ⟨p, q⟩ := q
    obtain ⟨v, e1, g1⟩ := g.take e
    have g2 := g1.freeze p
    have s1 : Step M S H (some (.dat t.frz) :: S.set i none) H := Step.refl.less fun a ha => take_sub e a (by
      simp only [ownsS, T.owns, List.nil_append, List.mem_append] at ha ⊢
      exact .inr ha)
    have g3 := g2.back e1
    have hd : Dp K (hidS M (S.set i none) H) v t.frz := by
      obtain ⟨⟨x, ex, hx⟩, _⟩ := g2.sl
      cases ex
      simp only [T.holds] at hx
      exact dp_mono (same_less fun a ha => by simpa [ownsS, T.owns] using ha) _ _ hx
    rw [List.set_set] at g3
    have hs : ∀ a, a ∈ ownsS (S.set i (some (.dat t.frz))) → a ∈ ownsS (S.set i none) := fun a ha => by
      have hi : i < S.length := (List.getElem?_eq_some_iff.mp e).1
      have := (ownsS_some_perm (.dat t.frz) S i hi).subset ha
      simpa [T.owns] using this
    refine ⟨v, e1, k _ _ v H q (g3.flat (dp_mono (same_less hs) _ _ hd)) (s1.less fun a ha => ?_)⟩
    simp only [ownsS, T.owns, List.nil_append] at ha ⊢
    exact hs a ha
  · exact q.elim
theorem up_mv {K : PySem.W.Frag} {i : Nat} : ∀ σ H Q, up K (dMv i) σ H Q → tVar i σ H Q := by
  rintro σ H Q ⟨M, S, Qd, g, q, k⟩
  unfold dMv at q
  split at q
  · next t e =>
    obtain ⟨v, e1, g1⟩ := g.take e
    exact ⟨v, e1, k _ _ v H q g1 (Step.refl.less (take_sub e))⟩
  · exact q.elim
section
variable {X : Cx}
theorem pd_int {i j pos} : PD X (.Constant (.int i) j pos) (dC (.int i)) := PE_imp pe_int (up_c rfl)
theorem pd_bl {b j pos} : PD X (.Constant (.bool b) j pos) (dC (.bool b)) := PE_imp pe_bl (up_c rfl)
theorem pd_non {j pos} : PD X (.Constant .none j pos) (dC .none) := PE_imp pe_non (up_c rfl)
theorem pd_str {x j pos} : PD X (.Constant (.str x) j pos) (dC (.str x)) := PE_imp pe_str (up_c rfl)
theorem pdv (i : Nat) {x : Str} {pos : Pos} (hN : X.N[i]? = some x := by rfl) (hv : Vis X.env.scope x := by first | exact Or.inl rfl | exact Or.inr (Or.inl rfl) | exact Or.inr (Or.inr rfl)) (hd : (x == ("__debug__" : Str)) = false := by decide)
    (hcd : (x == ("__classdict__" : Str)) = false := by decide) : PD X (.Name x pos) (dVar i) := PE_imp (pe_var hN hv hd hcd) up_var
theorem pdm (i : Nat) {x : Str} {pos : Pos} (hN : X.N[i]? = some x := by rfl) (hv : Vis X.env.scope x := by first | exact Or.inl rfl | exact Or.inr (Or.inl rfl) | exact Or.inr (Or.inr rfl)) (hd : (x == ("__debug__" : Str)) = false := by decide)
    (hcd : (x == ("__classdict__" : Str)) = false := by decide) : PD X (.Name x pos) (dMv i) := PE_imp (pe_var hN hv hd hcd) up_mv
/-- a module's constant -/
theorem pd_glob {x : Str} {v : V} {d : PyData} {u : Value} {pos : Pos} (hg : Gl X x) (hm : X.mg x = some u) (r : RelV v u) (h : fv d = some v) (hd : (x == ("__debug__" : Str)) = false := by decide) : PD X (.Name x pos) (dC d) := PE_imp (pe_glob hg hm r hd) (up_c h)
end

/-! ### 7. Two in a row; operators -/
section
variable {K : PySem.W.Frag} {ta tb : TD} {σ : St} {H : Hp}
theorem up2 {M : Addr → Prop} {S : SS} {Q2 : V → V → Hp → Prop} {R : T → T → SS → Prop} (g : Good K M S σ H) (h : ta S fun t S1 => tb S1 fun u S2 => R t u S2)
    (k : ∀ t u S2 v w H2, R t u S2 → Good K M (some t :: some u :: S2) (some v :: some w :: σ) H2 → Step M S H (some t :: some u :: S2) H2 → Q2 v w H2) :
    up K ta σ H fun v H1 => up K tb σ H1 fun w H2 => Q2 v w H2 :=
  ⟨M, S, _, g, h, fun t S1 v H1 h1 g1 s1 => ⟨_, S1, _, g1.apart, h1, fun u S2 w H2 h2 g2 s2 => by
    obtain ⟨j1, j2⟩ := g1.join g2 s2
    exact k t u S2 v w H2 h2 j1 (s1.trans j2)⟩⟩
end
abbrev OpK := PyData → PyData → (PyData → Prop) → Prop
def OpD (X : Cx) (f : Value → Value → Sem Value) (g : OpK) : Prop := ∃ r : R2, OpR X f r ∧
  ∀ v w d e H Q Qd, Dp X.K H v d → Dp X.K H w e → g d e Qd → (∀ z u, fv z = some u → Qd z → Q u H) → r v w H Q
def dOp (g : OpK) (ta tb : TD) : TD := fun S Q => ta S fun t S1 => tb S1 fun u S2 => t.pln = true ∧ u.pln = true ∧ g t.frz u.frz fun z => Q (.dat z) S2
theorem Good.two {K : PySem.W.Frag} {M : Addr → Prop} {t u : T} {v w : V} {S : SS} {σ : St} {H : Hp} (g : Good K M (some t :: some u :: S) (some v :: some w :: σ) H) (p : t.pln = true) (q : u.pln = true) : Dp K H v t.frz ∧ Dp K H w u.frz := ⟨g.dp p, g.drop.dp q⟩
theorem sub2 {t u : T} {S : SS} {d : PyData} : ∀ a ∈ ownsS (some (.dat d) :: S), a ∈ ownsS (some t :: some u :: S) := fun a ha => by
  simp only [ownsS, T.owns, List.nil_append, List.mem_append] at ha ⊢
  exact .inr (.inr ha)
theorem sub1 {t : T} {S : SS} {d : PyData} : ∀ a ∈ ownsS (some (.dat d) :: S), a ∈ ownsS (some t :: S) := fun a ha => by
  simp only [ownsS, T.owns, List.nil_append, List.mem_append] at ha ⊢
  exact .inr ha
theorem up_op {X : Cx} {r : R2} {g : OpK} {ta tb : TD} (hr : ∀ v w d e H Q Qd, Dp X.K H v d → Dp X.K H w e → g d e Qd → (∀ z u, fv z = some u → Qd z → Q u H) → r v w H Q) :
    ∀ σ H Q, up X.K (dOp g ta tb) σ H Q → tOp r (up X.K ta) (up X.K tb) σ H Q := by
  rintro σ H Q ⟨M, S, Qd, g0, q, k⟩
  refine up2 g0 q fun t u S2 v w H2 h2 g2 s2 => ?_
  obtain ⟨p1, p2, h2⟩ := h2
  obtain ⟨d1, d2⟩ := g2.two p1 p2
  exact hr v w _ _ H2 Q _ d1 d2 h2 fun z u e qz => k _ S2 u H2 qz (g2.drop.drop.fv e) (s2.less sub2)
section
variable {X : Cx} {a b : Expr} {ta tb : TD} {pos : Pos} {g : OpK}
theorem pd_op {op : Operator} (h : OpD X (binaryOp op) g) (ha : PD X a ta) (hb : PD X b tb) : PD X (.BinOp a op b pos) (dOp g ta tb) := by
  obtain ⟨r, h1, h2⟩ := h
  exact PE_imp (pe_op h1 ha hb) (up_op h2)
theorem pd_cmp {op : CmpOp} (h : OpD X (compareOp op) g) (ha : PD X a ta) (hb : PD X b tb) (hm : behindInMarks op b = false := by first | exact nobehind _ (by decide) (by decide) | rfl) : PD X (.Compare a [op] [b] pos) (dOp g ta tb) := by
  obtain ⟨r, h1, h2⟩ := h
  exact PE_imp (pe_cmpR h1 ha hb hm) (up_op h2)
end
/-- a test whose value is a bool -/
def dTest (t : TD) : TTD := fun S Q => t S fun x S1 => match x with
  | .dat (.bool b) => Q b S1
  | _ => False
theorem up_test {K : PySem.W.Frag} {t : TD} : ∀ σ H Q, upT K (dTest t) σ H Q → tTest (up K t) σ H Q := by
  rintro σ H Q ⟨M, S, Qd, g, q, k⟩
  refine ⟨M, S, _, g, q, fun x S1 v H1 h1 g1 s1 => ?_⟩
  split at h1
  · next b =>
    obtain ⟨⟨y, ey, hy⟩, _⟩ := g1.sl
    cases ey
    simp only [T.holds] at hy
    cases hy
    exact ⟨b, rfl, k b S1 H1 h1 g1.drop (s1.less drop_sub)⟩
  · exact h1.elim
theorem up_testB {K : PySem.W.Frag} {t : TD} : ∀ σ H Q, upT K (dTest t) σ H Q → tB (up K t) σ H Q := up_test
section
variable {X : Cx} {a b : Expr} {ta tb : TD} {pos : Pos} {g : OpK}
theorem ptd_cmp {op : CmpOp} (h : OpD X (compareOp op) g) (ha : PD X a ta) (hb : PD X b tb) (hm : behindInMarks op b = false := by first | exact nobehind _ (by decide) (by decide) | rfl) : PTD X (.Compare a [op] [b] pos) (dTest (dOp g ta tb)) := by
  obtain ⟨r, h1, h2⟩ := h
  refine PT_imp (pt_cmpR h1 ha hb hm) fun σ H Q w => ?_
  obtain ⟨k, hk⟩ := up_test (K := X.K) (t := dOp g ta tb) σ H Q w
  exact up_op h2 σ H _ ⟨k, hk⟩
/-- a bool-valued expression as a test -/
theorem ptd_val (h : PD X a ta) (he : ∀ whole, isTrue a X.env whole = (do let v ← whole; standAt a.pos; holding [v] (truthy v)) := by intro _; rfl) : PTD X a (dTest ta) := PT_imp (pt_val h he) up_testB
end
/-- truth of any plain value -/
def truD : PyData → Bool
  | .none => false
  | .bool b => b
  | .int i => i != 0
  | .str x => (x.length : Int) != 0
  | .list xs => !xs.isEmpty
  | .tuple xs => !xs.isEmpty
  | .dict _ => false
def dTru (t : TD) : TTD := fun S Q => t S fun x S1 => x.pln = true ∧ (∀ y, x.frz = .str y → y.length ≤ sizeLine) ∧ Q (truD x.frz) S1
theorem isEmpty_all {K : PySem.W.Frag} {H : Hp} : ∀ {xs : List V} {ds : List PyData}, DpAll K H xs ds → (!ds.isEmpty) = !xs.isEmpty
  | [], _, h => by cases h; rfl
  | _ :: _, _, h => by cases h; rfl
theorem truV_of {K : PySem.W.Frag} {H : Hp} {v : V} {d : PyData} (h : Dp K H v d) (hs : ∀ y, d = .str y → y.length ≤ sizeLine) : TruV K v H (truD d) := by
  cases h with
  | non => exact rfl
  | bl b => exact rfl
  | int i => exact rfl
  | str x => exact ⟨hs x rfl, rfl⟩
  | lst hq ha => exact .inl ⟨_, hq, isEmpty_all ha⟩
  | tup hq ha => exact .inr (.inl ⟨_, hq, isEmpty_all ha⟩)
section
variable {X : Cx} {a b : Expr} {ta tb : TD} {tA tB' : TTD} {rest : List Expr} {pos : Pos}
theorem ptd_tru (h : PD X a ta) (he : ∀ whole, isTrue a X.env whole = (do let v ← whole; standAt a.pos; holding [v] (truthy v)) := by intro _; rfl) : PTD X a (dTru ta) := by
  refine PT_imp (pt_truth h he) ?_
  rintro σ H Q ⟨M, S, Qd, g, q, k⟩
  refine ⟨M, S, _, g, q, fun x S1 v H1 h1 g1 s1 => ?_⟩
  obtain ⟨p, hs, h1⟩ := h1
  exact ⟨_, truV_of (g1.dp p) hs, k _ S1 H1 h1 g1.drop (s1.less drop_sub)⟩
def dNot (t : TTD) : TTD := fun S Q => t S fun b S1 => Q (!b) S1
def dAnd (t u : TTD) : TTD := fun S Q => t S fun b S1 => if b = true then u S1 Q else Q false S1
def dOr (t u : TTD) : TTD := fun S Q => t S fun b S1 => if b = true then Q true S1 else u S1 Q
theorem ptd_not (h : PTD X a tA) : PTD X (.UnaryOp .Not a pos) (dNot tA) := by
  refine PT_imp (pt_not h) ?_
  rintro σ H Q ⟨M, S, Qd, g, q, k⟩
  exact ⟨M, S, _, g, q, fun b S1 H1 h1 g1 s1 => k _ S1 H1 h1 g1 s1⟩
theorem up_and {K : PySem.W.Frag} {t u : TTD} : ∀ σ H Q, upT K (dAnd t u) σ H Q → tAnd (upT K t) (upT K u) σ H Q := by
  rintro σ H Q ⟨M, S, Qd, g, q, k⟩
  refine ⟨M, S, _, g, q, fun b S1 H1 h1 g1 s1 => ?_⟩
  cases b with
  | true => exact iteT ⟨M, S1, _, g1, h1, fun c S2 H2 h2 g2 s2 => k c S2 H2 h2 g2 (s1.trans s2)⟩
  | false => exact iteF (k _ S1 H1 h1 g1 s1)
theorem up_or {K : PySem.W.Frag} {t u : TTD} : ∀ σ H Q, upT K (dOr t u) σ H Q → tOr (upT K t) (upT K u) σ H Q := by
  rintro σ H Q ⟨M, S, Qd, g, q, k⟩
  refine ⟨M, S, _, g, q, fun b S1 H1 h1 g1 s1 => ?_⟩
  cases b with
  | true => exact iteT (k _ S1 H1 h1 g1 s1)
  | false => exact iteF ⟨M, S1, _, g1, h1, fun c S2 H2 h2 g2 s2 => k c S2 H2 h2 g2 (s1.trans s2)⟩
theorem pwd_and1 (ha : PTD X a tA) : PWD X (.BoolOp .And [a] pos) tA := pw_and1 ha
theorem pwd_or1 (ha : PTD X a tA) : PWD X (.BoolOp .Or [a] pos) tA := pw_or1 ha
theorem pwd_and (ha : PTD X a tA) (hb : PWD X (.BoolOp .And (b :: rest) pos) tB') : PWD X (.BoolOp .And (a :: b :: rest) pos) (dAnd tA tB') := PW_imp (pw_and ha hb) up_and
theorem pwd_or (ha : PTD X a tA) (hb : PWD X (.BoolOp .Or (b :: rest) pos) tB') : PWD X (.BoolOp .Or (a :: b :: rest) pos) (dOr tA tB') := PW_imp (pw_or ha hb) up_or
/-- and, or, not as bool values -/
def dAndV (ta tb : TD) : TD := fun S Q => ta S fun x S1 => match x with
  | .dat (.bool b) => if b = true then tb S1 Q else Q (.dat (.bool false)) S1
  | _ => False
def dOrV (ta tb : TD) : TD := fun S Q => ta S fun x S1 => match x with
  | .dat (.bool b) => if b = true then Q (.dat (.bool true)) S1 else tb S1 Q
  | _ => False
def dNotV (ta : TD) : TD := fun S Q => ta S fun x S1 => match x with
  | .dat (.bool b) => Q (.dat (.bool (!b))) S1
  | _ => False
theorem Good.bool {K : PySem.W.Frag} {M : Addr → Prop} {S : SS} {σ : St} {H : Hp} {b : Bool} {v : V} (g : Good K M (some (.dat (.bool b)) :: S) (some v :: σ) H) : v = .bl b := by
  obtain ⟨⟨y, ey, hy⟩, _⟩ := g.sl
  cases ey
  simp only [T.holds] at hy
  cases hy
  rfl
theorem pd_one {op} {t : TD} (h : PD X a t) : PD X (.BoolOp op [a] pos) t := pe_one h
theorem pd_and (ha : PD X a ta) (hb : PD X (.BoolOp .And (b :: rest) pos) tb) : PD X (.BoolOp .And (a :: b :: rest) pos) (dAndV ta tb) := by
  refine PE_imp (pe_and ha hb) ?_
  rintro σ H Q ⟨M, S, Qd, g, q, k⟩
  refine ⟨M, S, _, g, q, fun x S1 v H1 h1 g1 s1 => ?_⟩
  split at h1
  · next c =>
    cases g1.bool
    refine ⟨c, rfl, ?_⟩
    cases c with
    | true => exact iteT ⟨M, S1, _, g1.drop, h1, fun c S2 v2 H2 h2 g2 s2 => k c S2 v2 H2 h2 g2 ((s1.less drop_sub).trans s2)⟩
    | false => exact iteF (k _ S1 _ H1 h1 g1 s1)
  · exact h1.elim
theorem pd_or (ha : PD X a ta) (hb : PD X (.BoolOp .Or (b :: rest) pos) tb) : PD X (.BoolOp .Or (a :: b :: rest) pos) (dOrV ta tb) := by
  refine PE_imp (pe_or ha hb) ?_
  rintro σ H Q ⟨M, S, Qd, g, q, k⟩
  refine ⟨M, S, _, g, q, fun x S1 v H1 h1 g1 s1 => ?_⟩
  split at h1
  · next c =>
    cases g1.bool
    refine ⟨c, rfl, ?_⟩
    cases c with
    | true => exact iteT (k _ S1 _ H1 h1 g1 s1)
    | false => exact iteF ⟨M, S1, _, g1.drop, h1, fun c S2 v2 H2 h2 g2 s2 => k c S2 v2 H2 h2 g2 ((s1.less drop_sub).trans s2)⟩
  · exact h1.elim
theorem pd_not (ha : PD X a ta) : PD X (.UnaryOp .Not a pos) (dNotV ta) := by
  refine PE_imp (pe_not ha) ?_
  rintro σ H Q ⟨M, S, Qd, g, q, k⟩
  refine ⟨M, S, _, g, q, fun x S1 v H1 h1 g1 s1 => ?_⟩
  split at h1
  · next c =>
    cases g1.bool
    exact ⟨c, rfl, k _ S1 _ H1 h1 (g1.drop.fv rfl) (s1.less sub1)⟩
  · exact h1.elim
/-- a if c else b -/
def dIfE (c : TTD) (ta tb : TD) : TD := fun S Q => c S fun k S1 => if k = true then ta S1 Q else tb S1 Q
theorem pd_ifE {c : Expr} (hc : PTD X c tA) (ha : PD X a ta) (hb : PD X b tb) : PD X (.IfExp c a b pos) (dIfE tA ta tb) := by
  refine PE_imp (pe_ifExp hc ha hb) ?_
  rintro σ H Q ⟨M, S, Qd, g, q, k⟩
  refine ⟨M, S, _, g, q, fun c S1 H1 h1 g1 s1 => ?_⟩
  cases c with
  | true => exact iteT ⟨M, S1, _, g1, h1, fun c S2 v2 H2 h2 g2 s2 => k c S2 v2 H2 h2 g2 (s1.trans s2)⟩
  | false => exact iteF ⟨M, S1, _, g1, h1, fun c S2 v2 H2 h2 g2 s2 => k c S2 v2 H2 h2 g2 (s1.trans s2)⟩
end
/-! the operators -/
def addK : OpK
  | .int i, .int j, Q => Q (.int (i + j))
  | _, _, _ => False
def subK : OpK
  | .int i, .int j, Q => Q (.int (i - j))
  | _, _, _ => False
def mulK : OpK
  | .int i, .int j, Q => CMulW i j ∧ Q (.int (i * j))
  | _, _, _ => False
def fdivK : OpK
  | .int i, .int j, Q => CDivW i j ∧ Q (.int (i / j))
  | _, _, _ => False
def modK : OpK
  | .int i, .int j, Q => 0 < j ∧ Q (.int (i % j))
  | _, _, _ => False
def powK : OpK
  | .int i, .int j, Q => (0 ≤ j ∧ (Builtin.Int.intBits i : Int) * j ≤ 2 ^ 27) ∧ Q (.int (i ^ j.toNat))
  | _, _, _ => False
def ltK : OpK
  | .int i, .int j, Q => Q (.bool (decide (i < j)))
  | _, _, _ => False
def leK : OpK
  | .int i, .int j, Q => Q (.bool (decide (i ≤ j)))
  | _, _, _ => False
def gtK : OpK
  | .int i, .int j, Q => Q (.bool (decide (j < i)))
  | _, _, _ => False
def geK : OpK
  | .int i, .int j, Q => Q (.bool (decide (j ≤ i)))
  | _, _, _ => False
def eqOk : PyData → PyData → Bool
  | .str _, .str _ => true
  | d, e => SeqAt.shaped d && SeqAt.shaped e
def eqK : OpK := fun d e Q => eqOk d e = true ∧ Q (.bool (PyData.eqv d e))
def neK : OpK := fun d e Q => eqOk d e = true ∧ Q (.bool (!PyData.eqv d e))
theorem eqOk_cases {d e : PyData} (h : eqOk d e = true) : (∃ x y, d = .str x ∧ e = .str y) ∨ (SeqAt.shaped d = true ∧ SeqAt.shaped e = true) := by
  unfold eqOk at h
  split at h
  · exact .inl ⟨_, _, rfl, rfl⟩
  · exact .inr (by simpa using h)
def isNone : PyData → Bool
  | .none => true
  | _ => false
def isK : OpK
  | d, .none, Q => Q (.bool (isNone d))
  | .bool a, .bool b, Q => Q (.bool (decide (a = b)))
  | _, _, _ => False
def isNotK : OpK
  | d, .none, Q => Q (.bool (!isNone d))
  | .bool a, .bool b, Q => Q (.bool (!decide (a = b)))
  | _, _, _ => False
section
variable {X : Cx}
theorem opd_int {f : Value → Value → Sem Value} {C : Int → Int → Prop} {h : Int → Int → PyData} {hv : Int → Int → V} {g : OpK} (hf : ∀ i j, fv (h i j) = some (hv i j)) (hr : OpR X f (rI C hv))
    (e : ∀ d e Q, g d e Q → ∃ i j, d = .int i ∧ e = .int j ∧ C i j ∧ Q (h i j)) : OpD X f g := by
  refine ⟨_, hr, ?_⟩
  intro v w d e' H Q Qd hd he hg k
  obtain ⟨i, j, rfl, rfl, c, q⟩ := e _ _ _ hg
  cases hd
  cases he
  exact ⟨i, j, rfl, rfl, c, k _ _ (hf i j) q⟩
theorem opd_int0 {f : Value → Value → Sem Value} {h : Int → Int → PyData} {hv : Int → Int → V} {g : OpK} (hf : ∀ i j, fv (h i j) = some (hv i j)) (hr : OpR X f (rI0 hv))
    (e : ∀ d e Q, g d e Q → ∃ i j, d = .int i ∧ e = .int j ∧ Q (h i j)) : OpD X f g := by
  refine ⟨_, hr, ?_⟩
  intro v w d e' H Q Qd hd he hg k
  obtain ⟨i, j, rfl, rfl, q⟩ := e _ _ _ hg
  cases hd
  cases he
  exact ⟨i, j, rfl, rfl, k _ _ (hf i j) q⟩
theorem od_add : OpD X (binaryOp .Add) addK := opd_int0 (h := fun i j => .int (i + j)) (fun _ _ => rfl) op_add fun d e Q q => by
  unfold addK at q; split at q
  · exact ⟨_, _, rfl, rfl, q⟩
  · exact q.elim
theorem od_sub : OpD X (binaryOp .Sub) subK := opd_int0 (h := fun i j => .int (i - j)) (fun _ _ => rfl) op_sub fun d e Q q => by
  unfold subK at q; split at q
  · exact ⟨_, _, rfl, rfl, q⟩
  · exact q.elim
theorem od_mul : OpD X (binaryOp .Mult) mulK := opd_int (h := fun i j => .int (i * j)) (fun _ _ => rfl) op_mulW fun d e Q q => by
  unfold mulK at q; split at q
  · exact ⟨_, _, rfl, rfl, q⟩
  · exact q.elim
theorem od_fdiv : OpD X (binaryOp .FloorDiv) fdivK := opd_int (h := fun i j => .int (i / j)) (fun _ _ => rfl) op_fdivW fun d e Q q => by
  unfold fdivK at q; split at q
  · exact ⟨_, _, rfl, rfl, q⟩
  · exact q.elim
theorem od_mod : OpD X (binaryOp .Mod) modK := opd_int (h := fun i j => .int (i % j)) (fun _ _ => rfl) op_mod fun d e Q q => by
  unfold modK at q; split at q
  · exact ⟨_, _, rfl, rfl, q⟩
  · exact q.elim
theorem op_powW : OpR X (binaryOp .Pow) (rI (fun i j => 0 ≤ j ∧ (Builtin.Int.intBits i : Int) * j ≤ 2 ^ 27) fun i j => .int (i ^ j.toNat)) := opI fun _ _ _ _ _ _ _ hc q => PyProof.Rows.pow_int hc.1 hc.2 q
theorem od_pow : OpD X (binaryOp .Pow) powK := opd_int (h := fun i j => .int (i ^ j.toNat)) (fun _ _ => rfl) op_powW fun d e Q q => by
  unfold powK at q; split at q
  · exact ⟨_, _, rfl, rfl, q⟩
  · exact q.elim
theorem od_lt : OpD X (compareOp .Lt) ltK := opd_int0 (h := fun i j => .bool (decide (i < j))) (fun _ _ => rfl) op_lt fun d e Q q => by
  unfold ltK at q; split at q
  · exact ⟨_, _, rfl, rfl, q⟩
  · exact q.elim
theorem od_le : OpD X (compareOp .LtE) leK := opd_int0 (h := fun i j => .bool (decide (i ≤ j))) (fun _ _ => rfl) op_le fun d e Q q => by
  unfold leK at q; split at q
  · exact ⟨_, _, rfl, rfl, q⟩
  · exact q.elim
theorem od_gt : OpD X (compareOp .Gt) gtK := opd_int0 (h := fun i j => .bool (decide (j < i))) (fun _ _ => rfl) op_gt fun d e Q q => by
  unfold gtK at q; split at q
  · exact ⟨_, _, rfl, rfl, q⟩
  · exact q.elim
theorem od_ge : OpD X (compareOp .GtE) geK := opd_int0 (h := fun i j => .bool (decide (j ≤ i))) (fun _ _ => rfl) op_ge fun d e Q q => by
  unfold geK at q; split at q
  · exact ⟨_, _, rfl, rfl, q⟩
  · exact q.elim
theorem eqv_str (x y : Str) : PyData.eqv (.str x) (.str y) = decide (V.str x = V.str y) := by
  simp only [PyData.eqv, V.str.injEq]
  by_cases h : x = y
  · subst h; simp
  · simp [h]
theorem od_eq (hu : X.A.units + 64 < cLine) : OpD X (compareOp .Eq) eqK := ⟨_, op_eq.or (op_eqD hu), fun v w d e H Q Qd hd he ⟨s1, q⟩ k => by
  rcases eqOk_cases s1 with ⟨x, y, rfl, rfl⟩ | ⟨s1, s2⟩
  · cases hd
    cases he
    refine .inl ⟨rfl, ?_⟩
    rw [← eqv_str]
    exact k _ _ rfl q
  · exact .inr ⟨d, e, hd, he, s1, s2, k _ _ rfl q⟩⟩
theorem od_ne (hu : X.A.units + 64 < cLine) : OpD X (compareOp .NotEq) neK := ⟨_, op_ne.or (op_neD hu), fun v w d e H Q Qd hd he ⟨s1, q⟩ k => by
  rcases eqOk_cases s1 with ⟨x, y, rfl, rfl⟩ | ⟨s1, s2⟩
  · cases hd
    cases he
    refine .inl ⟨rfl, ?_⟩
    rw [← eqv_str]
    exact k _ _ rfl q
  · exact .inr ⟨d, e, hd, he, s1, s2, k _ _ rfl q⟩⟩
theorem isNone_dp {K : PySem.W.Frag} {H : Hp} {v : V} {d : PyData} (h : Dp K H v d) : decide (v = .non) = isNone d := by
  cases h <;> simp [isNone]
theorem od_is : OpD X (compareOp .Is) isK := ⟨_, op_isN.or op_isBl, fun v w d e H Q Qd hd he q k => by
  unfold isK at q
  split at q
  · cases he
    exact .inl ⟨rfl, by rw [isNone_dp hd]; exact k _ _ rfl q⟩
  · cases hd
    cases he
    exact .inr ⟨_, _, rfl, rfl, k _ _ rfl q⟩
  · exact q.elim⟩
theorem od_isNot : OpD X (compareOp .IsNot) isNotK := ⟨_, op_notN.or op_notBl, fun v w d e H Q Qd hd he q k => by
  unfold isNotK at q
  split at q
  · cases he
    exact .inl ⟨rfl, by rw [isNone_dp hd]; exact k _ _ rfl q⟩
  · cases hd
    cases he
    exact .inr ⟨_, _, rfl, rfl, k _ _ rfl q⟩
  · exact q.elim⟩
end
end DL
namespace DL
open PySem L2

/-! ### 8. Arguments, displays -/
theorem ownsS_map : ∀ ts : List T, ownsS (ts.map some) = ownsL ts
  | [] => rfl
  | t :: ts => by simp only [List.map_cons, ownsS, ownsL, ownsS_map ts]
theorem slotsH_append {K : PySem.W.Frag} {Hd H : Hp} : ∀ {ts : List (Option T)} {vs : List (Option V)} {S : SS} {σ : St}, ts.length = vs.length → (slotsH K Hd H (ts ++ S) (vs ++ σ) ↔ slotsH K Hd H ts vs ∧ slotsH K Hd H S σ)
  | [], [], S, σ, _ => by simp [slotsH]
  | none :: ts, v :: vs, S, σ, e => by
    simp only [List.cons_append, slotsH]
    exact slotsH_append (by simpa using e)
  | some t :: ts, v :: vs, S, σ, e => by
    simp only [List.cons_append, slotsH, and_assoc]
    rw [slotsH_append (by simpa using e)]
theorem slotsH_map {K : PySem.W.Frag} {Hd H : Hp} : ∀ {ts : List T} {vs : List V}, slotsH K Hd H (ts.map some) (vs.map some) ↔ holdsL K Hd H ts vs
  | [], [] => by simp [slotsH, holdsL]
  | [], v :: vs => by simp [slotsH, holdsL]
  | t :: ts, [] => by simp [slotsH, holdsL]
  | t :: ts, v :: vs => by
    simp only [List.map_cons, slotsH, holdsL]
    rw [slotsH_map]
    constructor
    · rintro ⟨⟨x, e, h⟩, k⟩
      cases e
      exact ⟨v, vs, rfl, h, k⟩
    · rintro ⟨v', r, e, h, k⟩
      cases e
      exact ⟨⟨_, rfl, h⟩, k⟩
section
variable {K : PySem.W.Frag} {M : Addr → Prop} {S : SS} {σ : St} {H : Hp}
theorem Good.drops {L : SS} {w : St} (g : Good K M (L ++ S) (w ++ σ) H) (e : L.length = w.length) : Good K M S σ H := by
  have q := (slotsH_append e).mp g.sl
  refine g.sub (fun a ha => ?_) ?_ q.2
  · rw [ownsS_append]; exact List.mem_append.mpr (.inr ha)
  · have := g.nd
    rw [ownsS_append] at this
    exact (List.nodup_append.mp this).2.1
theorem drops_sub {L : SS} : ∀ a ∈ ownsS S, a ∈ ownsS (L ++ S) := fun a ha => by rw [ownsS_append]; exact List.mem_append.mpr (.inr ha)
/-- the temporaries ahead are laid together as one new object -/
theorem Good.wrap {ts : List T} {vs : List V} {p : Addr} {sh : Sh} (g : Good K M (ts.map some ++ S) (vs.map some ++ σ) H) (e : vs.length = ts.length) (hp : H p = none) (hm : sh.more = []) :
    Good K M (some (.node sh p ts) :: S) (some (.ref p) :: σ) (upd H p (sh.ho vs)) ∧ Step M (ts.map some ++ S) H (some (.node sh p ts) :: S) (upd H p (sh.ho vs)) := by
  have hl : (ts.map some).length = (vs.map some).length := by simp [e]
  obtain ⟨q1, q2⟩ := (slotsH_append hl).mp g.sl
  have q1 := slotsH_map.mp q1
  have ne : ∀ a, Bd M (ts.map some ++ S) a → a ≠ p := fun a ha z => g.tracked a ha (by rw [z]; exact hp)
  have hb : ∀ a, Bd M (some (.node sh p ts) :: S) a ↔ a = p ∨ Bd M (ts.map some ++ S) a := fun a => by
    simp only [Bd, ownsS, ownsS_append, ownsS_map, T.owns, hm, List.nil_append, List.cons_append, List.mem_cons, List.mem_append]
    constructor
    · rintro (h | h | h)
      · exact .inr (.inl h)
      · exact .inl h
      · exact .inr (.inr h)
    · rintro (h | h | h)
      · exact .inr (.inl h)
      · exact .inl h
      · exact .inr (.inr h)
  have st : Step M (ts.map some ++ S) H (some (.node sh p ts) :: S) (upd H p (sh.ho vs)) := by
    refine ⟨fun a o hn q => ?_, fun a ha => upd_ne (ne a (.inl ha))⟩
    have hap : a ≠ p := ne_of_none q hp
    exact ⟨fun z => ((hb a).mp z).elim hap hn, by rw [upd_ne hap]; exact q⟩
  have nd := g.nd
  rw [ownsS_append, ownsS_map] at nd
  refine ⟨⟨⟨⟨.ref p, rfl, ?_⟩, slotsH_frame st.same (fun a ha => upd_ne (ne a (.inr (drops_sub a ha)))) q2⟩, ?_, ?_, fun a ha => by rw [upd_ne (ne a (.inl ha))]; exact g.tk a ha⟩, st⟩
  · simp only [T.holds, true_and]
    refine ⟨vs, upd_same, fun x hx => absurd hx (by rw [hm]; simp), holdsL_frame st.same ts vs (fun a ha => upd_ne (ne a (.inr ?_))) q1⟩
    rw [ownsS_append, ownsS_map]
    exact List.mem_append.mpr (.inl ha)
  · simp only [ownsS, T.owns, hm, List.nil_append, List.cons_append]
    refine List.nodup_cons.mpr ⟨fun z => ne p (.inr ?_) rfl, nd⟩
    rw [ownsS_append, ownsS_map]
    exact z
  · intro a ha z
    rcases (hb a).mp (.inr ha) with h | h
    · exact ne a (.inl z) h
    · rcases h with h | h
      · simp only [ownsS, T.owns, hm, List.nil_append, List.cons_append, List.mem_cons] at ha
        rcases ha with ha | ha
        · exact ne a (.inl z) ha
        · exact g.dj a (by rw [ownsS_append, ownsS_map]; exact ha) z
      · exact g.dj a h z
end
def dNil : TAD := fun S Q => Q [] S
def dCons (t : TD) (ta : TAD) : TAD := fun S Q => t S fun x S1 => ta S1 fun xs S2 => Q (x :: xs) S2
def dLst (ta : TAD) : TD := fun S Q => ta S fun ts S1 => ts.length ≤ sizeLine ∧ ∀ p, Q (.node .lst p ts) S1
def dTup (ta : TAD) : TD := fun S Q => ta S fun ts S1 => ts.length ≤ sizeLine ∧ ∀ p, Q (.node .tup p ts) S1
def dFrz (t : TD) : TD := fun S Q => t S fun x S1 => x.pln = true ∧ Q (.dat x.frz) S1
theorem up_frz {K : PySem.W.Frag} {t : TD} : ∀ σ H Q, up K (dFrz t) σ H Q → up K t σ H Q := by
  rintro σ H Q ⟨M, S, Qd, g, q, k⟩
  refine ⟨M, S, _, g, q, fun x S1 v H1 h1 g1 s1 => ?_⟩
  obtain ⟨p, h1⟩ := h1
  exact k _ S1 v H1 h1 (g1.freeze p) (s1.less sub1)
section
variable {X : Cx} {e : Expr} {es : List Expr} {t : TD} {ta : TAD} {pos : Pos}
theorem pd_frz (h : PD X e t) : PD X e (dFrz t) := PE_imp h up_frz
theorem pad_nil : PAD X [] dNil := PA_imp pa_nil fun σ H Q ⟨M, S, Qd, g, q, k⟩ => k [] S [] H q rfl g .refl
theorem pad_cons (h1 : PD X e t) (h2 : PAD X es ta) (hs : starEach (e :: es) X.env = (false, eval e X.env) :: starEach es X.env := by rfl) : PAD X (e :: es) (dCons t ta) := by
  refine PA_imp (pa_cons h1 h2 hs) ?_
  rintro σ H Q ⟨M, S, Qd, g, q, k⟩
  refine ⟨M, S, _, g, q, fun x S1 v H1 h1 g1 s1 => ⟨_, S1, _, g1.apart, h1, fun xs S2 vs H2 h2 hl g2 s2 => ?_⟩⟩
  obtain ⟨j1, j2⟩ := g1.join g2 s2
  exact k (x :: xs) S2 (v :: vs) H2 h2 (by simp [hl]) j1 (s1.trans j2)
theorem pd_lst (h : PAD X es ta) : PD X (.List es pos) (dLst ta) := by
  refine PE_imp (pe_lst h) ?_
  rintro σ H Q ⟨M, S, Qd, g, q, k⟩
  refine ⟨M, S, _, g, q, fun ts S1 vs H1 h1 hl g1 s1 => ?_⟩
  obtain ⟨z, h1⟩ := h1
  refine ⟨by rw [hl]; exact z, fun p hp => ?_⟩
  obtain ⟨j1, j2⟩ := g1.wrap (sh := .lst) hl hp rfl
  exact k _ S1 _ _ (h1 p) j1 (s1.trans j2)
theorem pd_tup {x1} (h : PAD X es ta) : PD X (.Tuple es x1 pos) (dTup ta) := by
  refine PE_imp (pe_tup h) ?_
  rintro σ H Q ⟨M, S, Qd, g, q, k⟩
  refine ⟨M, S, _, g, q, fun ts S1 vs H1 h1 hl g1 s1 => ?_⟩
  obtain ⟨z, h1⟩ := h1
  refine ⟨by rw [hl]; exact z, fun p hp => ?_⟩
  obtain ⟨j1, j2⟩ := g1.wrap (sh := .tup) hl hp rfl
  exact k _ S1 _ _ (h1 p) j1 (s1.trans j2)
end

/-! ### 9. Chains, -x, items -/
def dNeg (ta : TD) : TD := fun S Q => ta S fun x S1 => match x with
  | .dat (.int i) => Q (.dat (.int (-i))) S1
  | _ => False
theorem Good.int {K : PySem.W.Frag} {M : Addr → Prop} {S : SS} {σ : St} {H : Hp} {b : Int} {v : V} (g : Good K M (some (.dat (.int b)) :: S) (some v :: σ) H) : v = .int b := by
  obtain ⟨⟨y, ey, hy⟩, _⟩ := g.sl
  cases ey
  simp only [T.holds] at hy
  cases hy
  rfl
theorem Good.dat {K : PySem.W.Frag} {M : Addr → Prop} {S : SS} {σ : St} {H : Hp} {d : PyData} {v : V} (g : Good K M (some (.dat d) :: S) (some v :: σ) H) : Dp K (hidS M S H) v d := by
  obtain ⟨⟨y, ey, hy⟩, _⟩ := g.sl
  cases ey
  simp only [T.holds] at hy
  exact dp_mono (same_less fun a ha => by simpa [ownsS, T.owns] using ha) _ _ hy
def dChain (g g' : OpK) (ta tb tc : TD) : TD := fun S Q => ta S fun t S1 => tb S1 fun u S2 => t.pln = true ∧ u.pln = true ∧ g t.frz u.frz fun z => match z with
  | .bool k => if k = true then match u with
      | .dat d => tc S2 fun w S3 => w.pln = true ∧ g' d w.frz fun z => Q (.dat z) S3
      | _ => False
    else Q (.dat (.bool false)) S2
  | _ => False
theorem up_chain {X : Cx} {r r' : R2} {g g' : OpK} {ta tb tc : TD} (hr : ∀ v w d e H Q Qd, Dp X.K H v d → Dp X.K H w e → g d e Qd → (∀ z u, fv z = some u → Qd z → Q u H) → r v w H Q)
    (hr' : ∀ v w d e H Q Qd, Dp X.K H v d → Dp X.K H w e → g' d e Qd → (∀ z u, fv z = some u → Qd z → Q u H) → r' v w H Q) :
    ∀ σ H Q, up X.K (dChain g g' ta tb tc) σ H Q → tChain r r' (up X.K ta) (up X.K tb) (up X.K tc) σ H Q := by
  rintro σ H Q ⟨M, S, Qd, g0, q, k⟩
  refine up2 g0 q fun t u S2 v w H2 h2 g2 s2 => ?_
  obtain ⟨p1, p2, h2⟩ := h2
  obtain ⟨d1, d2⟩ := g2.two p1 p2
  refine hr v w _ _ H2 _ _ d1 d2 h2 fun z y e qz => ?_
  cases z with
  | bool b =>
    cases e
    refine ⟨b, rfl, ?_⟩
    cases b with
    | false => exact iteF (k _ S2 _ H2 qz (g2.drop.drop.fv rfl) (s2.less sub2))
    | true =>
      refine iteT ?_
      dsimp only at qz
      rw [if_pos rfl] at qz
      cases u with
      | dat d =>
        have g3 : Good X.K M S2 σ H2 := g2.drop.drop
        have hd := g2.drop.dat
        refine ⟨M, S2, _, g3, qz, fun x S3 y3 H3 h3 g4 s4 => ?_⟩
        obtain ⟨p3, h3⟩ := h3
        have hd4 : Dp X.K H3 w d := dp_mono (fun a o e => (hide_some.mp e).2) _ _ (dp_mono s4.same _ _ hd)
        exact hr' w y3 d _ H3 _ _ hd4 (g4.dp p3) h3 fun z u e qz => k _ S3 u H3 qz (g4.drop.fv e) ((s2.less fun a ha => by simp only [ownsS, List.mem_append]; exact .inr (.inr ha)).trans (s4.less sub1))
      | node sh a ts => exact qz.elim
      | any => exact qz.elim
  | none => exact qz.elim
  | int _ => exact qz.elim
  | str _ => exact qz.elim
  | list _ => exact qz.elim
  | tuple _ => exact qz.elim
  | dict _ => exact qz.elim
section
variable {X : Cx} {a b c : Expr} {ta tb tc : TD} {pos : Pos} {g g' : OpK}
theorem pd_chain {op op' : CmpOp} (h : OpD X (compareOp op) g) (h' : OpD X (compareOp op') g') (ha : PD X a ta) (hb : PD X b tb) (hc : PD X c tc)
    (hm : lastMarks [op, op'] [b, c] = false := by with_unfolding_all rfl) : PD X (.Compare a [op, op'] [b, c] pos) (dChain g g' ta tb tc) := by
  obtain ⟨r, h1, h2⟩ := h
  obtain ⟨r', h1', h2'⟩ := h'
  exact PE_imp (pe_chain h1 h1' ha hb hc hm) (up_chain h2 h2')
theorem ptd_chain {op op' : CmpOp} (h : OpD X (compareOp op) g) (h' : OpD X (compareOp op') g') (ha : PD X a ta) (hb : PD X b tb) (hc : PD X c tc)
    (hm : lastMarks [op, op'] [b, c] = false := by with_unfolding_all rfl) : PTD X (.Compare a [op, op'] [b, c] pos) (dTest (dChain g g' ta tb tc)) := by
  obtain ⟨r, h1, h2⟩ := h
  obtain ⟨r', h1', h2'⟩ := h'
  refine PT_imp (pt_chain h1 h1' ha hb hc hm) fun σ H Q w => ?_
  obtain ⟨k, hk⟩ := up_test (K := X.K) (t := dChain g g' ta tb tc) σ H Q w
  exact up_chain h2 h2' σ H _ ⟨k, hk⟩
theorem pd_neg (ha : PD X a ta) : PD X (.UnaryOp .USub a pos) (dNeg ta) := by
  refine PE_imp (pe_un un_neg ha) ?_
  rintro σ H Q ⟨M, S, Qd, g, q, k⟩
  refine ⟨M, S, _, g, q, fun x S1 v H1 h1 g1 s1 => ?_⟩
  split at h1
  · next i =>
    cases g1.int
    exact ⟨i, rfl, k _ S1 _ H1 h1 (g1.drop.fv rfl) (s1.less sub1)⟩
  · exact h1.elim
end
theorem dpAll_get {K : PySem.W.Frag} {H : Hp} : ∀ {vs : List V} {ds : List PyData} {i : Nat} {d : PyData}, DpAll K H vs ds → ds[i]? = some d → ∃ v, vs[i]? = some v ∧ Dp K H v d
  | _, _, 0, d, .cons h _, e => by
    simp at e
    subst e
    exact ⟨_, by simp, h⟩
  | _, _, i + 1, d, .cons _ h, e => by simpa using dpAll_get (i := i) h (by simpa using e)
  | _, _, i, d, .nil, e => by simp at e
theorem dpAll_len {K : PySem.W.Frag} {H : Hp} : ∀ {vs : List V} {ds : List PyData}, DpAll K H vs ds → vs.length = ds.length
  | _, _, .nil => rfl
  | _, _, .cons _ h => congrArg Nat.succ (dpAll_len h)
theorem dpAll_at {K : PySem.W.Frag} {H : Hp} {vs : List V} {ds : List PyData} {i : Int} {d : PyData} (h : DpAll K H vs ds) (e : atI ds i = some d) : ∃ v, atI vs i = some v ∧ Dp K H v d := by
  unfold atI at e ⊢
  rw [dpAll_len h]
  cases q : ixN ds.length i with
  | none => rw [q] at e; cases e
  | some j =>
    rw [q] at e
    exact dpAll_get h e
def ixK : OpK
  | .list ds, .int i, Q => match atI ds i with
    | some d => Q d
    | none => False
  | .tuple ds, .int i, Q => match atI ds i with
    | some d => Q d
    | none => False
  | .str z, .int i, Q => z.length ≤ sizeLine ∧ match atI z.cps.toList i with
    | some c => Q (.str ⟨#[c]⟩)
    | none => False
  | _, _, _ => False
def dIx (ta tb : TD) : TD := fun S Q => ta S fun t S1 => tb S1 fun u S2 => match t, u with
  | .dat d, .dat e => ixK d e fun z => Q (.dat z) S2
  | _, _ => False
theorem up_ix {X : Cx} {ta tb : TD} : ∀ σ H Q, up X.K (dIx ta tb) σ H Q → tOp (rIx X.K) (up X.K ta) (up X.K tb) σ H Q := by
  rintro σ H Q ⟨M, S, Qd, g0, q, k⟩
  refine up2 g0 q fun t u S2 v w H2 h2 g2 s2 => ?_
  cases t with
  | node sh a ts => exact h2.elim
  | any => exact h2.elim
  | dat d =>
    cases u with
    | node sh a ts => exact h2.elim
    | any => exact h2.elim
    | dat e =>
      have g3 := g2.swap
      have hd : Dp X.K (hidS M S2 H2) v d := dp_mono (same_less fun a ha => by simpa [ownsS, T.owns] using ha) _ _ g2.dat
      have g4 : Good X.K M S2 σ H2 := g2.drop.drop
      have fin : ∀ z y, Dp X.K (hidS M S2 H2) y z → Qd (.dat z) S2 → Q y H2 := fun z y hz qz => k _ S2 y H2 qz (g4.flat hz) (s2.less sub2)
      have pl : ∀ {a o}, hidS M S2 H2 a = some o → H2 a = some o := fun e => (hide_some.mp e).2
      simp only at h2
      unfold ixK at h2
      split at h2
      · next ds i =>
        obtain ⟨p1, p2⟩ := g2.two rfl rfl
        cases p2
        cases hd with
        | lst hq ha =>
          split at h2
          · next z ez =>
            obtain ⟨y, ey, hy⟩ := dpAll_at ha ez
            exact .inl ⟨_, _, _, y, rfl, rfl, sql_mono (fun a o e => pl e) hq, ey, fin z y hy h2⟩
          · exact h2.elim
      · next ds i =>
        obtain ⟨p1, p2⟩ := g2.two rfl rfl
        cases p2
        cases hd with
        | tup hq ha =>
          split at h2
          · next z ez =>
            obtain ⟨y, ey, hy⟩ := dpAll_at ha ez
            exact .inr (.inl ⟨_, _, _, y, rfl, rfl, sqt_mono (fun a o e => pl e) hq, ey, fin z y hy h2⟩)
          · exact h2.elim
      · next z i =>
        obtain ⟨p1, p2⟩ := g2.two rfl rfl
        cases p2
        cases hd
        obtain ⟨hz, h2⟩ := h2
        split at h2
        · next c ec => exact .inr (.inr ⟨_, _, c, rfl, rfl, hz, ec, fin _ _ (.str _) h2⟩)
        · exact h2.elim
      · exact h2.elim
/-- the item of a slot's own list or tuple -/
def dIxS (i : Nat) (tb : TD) : TD := fun S Q => (match S[i]? with
    | some (some _) => True
    | _ => False) ∧ tb S fun u S1 => match S1[i]?, u with
  | some (some (.node sh _ ts)), .dat (.int j) => (sh = .lst ∨ sh = .tup) ∧ match atI ts j with
    | some (.dat z) => Q (.dat z) S1
    | _ => False
  | _, _ => False
theorem holdsL_get {K : PySem.W.Frag} {Hd H : Hp} : ∀ {ts : List T} {vs : List V} {i : Nat} {t : T}, holdsL K Hd H ts vs → ts[i]? = some t → ∃ v, vs[i]? = some v ∧ t.holds K Hd H v
  | u :: ts, vs, 0, t, h, e => by
    simp only [holdsL] at h
    obtain ⟨v, r, rfl, h1, h2⟩ := h
    simp at e
    subst e
    exact ⟨v, by simp, h1⟩
  | u :: ts, vs, i + 1, t, h, e => by
    simp only [holdsL] at h
    obtain ⟨v, r, rfl, h1, h2⟩ := h
    simpa using holdsL_get (i := i) h2 (by simpa using e)
  | [], vs, i, t, h, e => by simp at e
theorem holdsL_len {K : PySem.W.Frag} {Hd H : Hp} : ∀ {ts : List T} {vs : List V}, holdsL K Hd H ts vs → vs.length = ts.length
  | [], vs, h => by simp only [holdsL] at h; rw [h]; rfl
  | u :: ts, vs, h => by
    simp only [holdsL] at h
    obtain ⟨v, r, rfl, h1, h2⟩ := h
    exact congrArg Nat.succ (holdsL_len h2)
theorem holdsL_at {K : PySem.W.Frag} {Hd H : Hp} {ts : List T} {vs : List V} {i : Int} {t : T} (h : holdsL K Hd H ts vs) (e : atI ts i = some t) : ∃ v, atI vs i = some v ∧ t.holds K Hd H v := by
  unfold atI at e ⊢
  rw [holdsL_len h]
  cases q : ixN ts.length i with
  | none => rw [q] at e; cases e
  | some j =>
    rw [q] at e
    exact holdsL_get h e
theorem up_ixS {X : Cx} {i : Nat} {tb : TD} : ∀ σ H Q, up X.K (dIxS i tb) σ H Q → tOp (rIx X.K) (tVar i) (up X.K tb) σ H Q := by
  rintro σ H Q ⟨M, S, Qd, g, ⟨q0, q⟩, k⟩
  split at q0
  · next t0 e0 =>
    obtain ⟨v0, ev, _⟩ := slotsH_get g.sl e0
    refine ⟨v0, ev, M, S, _, g, q, fun u S1 w H1 h1 g1 s1 => ?_⟩
    split at h1
    · next sh a ts j e1 =>
      obtain ⟨hsh, h1⟩ := h1
      split at h1
      · next z ez =>
        have g2 := g1.drop
        obtain ⟨v1, ev1, hv1⟩ := slotsH_get g2.sl e1
        rw [ev] at ev1
        cases ev1
        cases g1.int
        simp only [T.holds] at hv1
        obtain ⟨rfl, vs, ho, _, hl⟩ := hv1
        obtain ⟨y, ey, hy⟩ := holdsL_at hl ez
        simp only [T.holds] at hy
        have fin := k _ S1 y H1 h1 (g2.flat hy) (s1.less sub1)
        rcases hsh with rfl | rfl
        · exact .inl ⟨_, _, _, y, rfl, rfl, SqL.of ho, ey, fin⟩
        · exact .inr (.inl ⟨_, _, _, y, rfl, rfl, SqT.of ho, ey, fin⟩)
      · exact h1.elim
    · exact h1.elim
  · exact q0.elim
section
variable {X : Cx} {a b : Expr} {ta tb : TD} {pos : Pos}
theorem pd_ix (ha : PD X a ta) (hb : PD X b tb) (hs : PlainIx b := by exact fun _ _ => rfl) : PD X (.Subscript a b pos) (dIx ta tb) := PE_imp (pe_ix ix_seq ha hb hs) up_ix
theorem pd_ixS (i : Nat) {x : Str} {p : Pos} (hb : PD X b tb) (hN : X.N[i]? = some x := by rfl) (hv : Vis X.env.scope x := by first | exact Or.inl rfl | exact Or.inr (Or.inl rfl) | exact Or.inr (Or.inr rfl)) (hd : (x == ("__debug__" : Str)) = false := by decide)
    (hcd : (x == ("__classdict__" : Str)) = false := by decide) (hs : PlainIx b := by exact fun _ _ => rfl) : PD X (.Subscript (.Name x p) b pos) (dIxS i tb) := PE_imp (pe_ix ix_seq (pe_var hN hv hd hcd) hb hs) up_ixS
end

/-! ### 10. Calls of built-ins whose answer is flat -/
abbrev CaK := List PyData → (PyData → Prop) → Prop
def CaD (X : Cx) (f : Value) (g : CaK) : Prop := ∃ r : List V → Hp → VK → Prop, CallR X f r ∧
  ∀ vs ds H Q Qd, DpAll X.K H vs ds → g ds Qd → (∀ z u, fv z = some u → Qd z → Q u H) → r vs H Q
def dCa (g : CaK) (ta : TAD) : TD := fun S Q => ta S fun ts S1 => plnL ts = true ∧ g (frzL ts) fun z => Q (.dat z) S1
theorem Good.dps {K : PySem.W.Frag} {M : Addr → Prop} {S : SS} {σ : St} {H : Hp} {ts : List T} {vs : List V} (g : Good K M (ts.map some ++ S) (vs.map some ++ σ) H) (e : vs.length = ts.length) (p : plnL ts = true) : DpAll K H vs (frzL ts) := by
  obtain ⟨q1, _⟩ := (slotsH_append (by simp [e])).mp g.sl
  exact holdsL_dp (fun a o e => (hide_some.mp e).2) ts vs p (fun _ _ => rfl) (slotsH_map.mp q1)
theorem up_ca {X : Cx} {r : List V → Hp → VK → Prop} {g : CaK} {ta : TAD} (hr : ∀ vs ds H Q Qd, DpAll X.K H vs ds → g ds Qd → (∀ z u, fv z = some u → Qd z → Q u H) → r vs H Q) :
    ∀ σ H Q, up X.K (dCa g ta) σ H Q → tCB r (upA X.K ta) σ H Q := by
  rintro σ H Q ⟨M, S, Qd, g0, q, k⟩
  refine ⟨M, S, _, g0, q, fun ts S1 vs H1 h1 hl g1 s1 => ?_⟩
  obtain ⟨p, h1⟩ := h1
  exact hr vs _ H1 Q _ (g1.dps hl p) h1 fun z u e qz => k _ S1 u H1 qz ((g1.drops (by simp [hl])).fv e) (s1.less fun a ha => drops_sub a (by simpa [ownsS, T.owns] using ha))
section
variable {X : Cx} {x : Str} {p pos : Pos} {e : Expr} {es : List Expr} {ta : TAD} {g : CaK}
theorem pd_callB {id : String} (h : CaD X (.builtin id) g) (hg : Gl X x) (hm : X.mg x = none) (hv : bootBuiltins x = some (.builtin id)) (ha : PAD X (e :: es) ta) (hn : x ≠ "__name__" := by decide) (hdb : (x == ("__debug__" : Str)) = false := by decide)
    (he : starEach (e :: es) X.env = (false, eval e X.env) :: starEach es X.env := by rfl) (hpl : (backTo pos (starEach es X.env)).any (·.1) = false := by rfl) : PD X (.Call (.Name x p) (e :: es) [] pos) (dCa g ta) := by
  obtain ⟨r, h1, h2⟩ := h
  exact PE_imp (pe_callB h1 hg hm hv ha (hn := hn) (hdb := hdb) (he := he) (hpl := hpl)) (up_ca h2)
theorem pd_callTy {id : String} (h : CaD X (.type id) g) (hg : Gl X x) (hm : X.mg x = none) (hv : bootBuiltins x = some (.type id)) (ha : PAD X (e :: es) ta) (hn : x ≠ "__name__" := by decide) (hdb : (x == ("__debug__" : Str)) = false := by decide)
    (he : starEach (e :: es) X.env = (false, eval e X.env) :: starEach es X.env := by rfl) (hpl : (backTo pos (starEach es X.env)).any (·.1) = false := by rfl) : PD X (.Call (.Name x p) (e :: es) [] pos) (dCa g ta) := by
  obtain ⟨r, h1, h2⟩ := h
  exact PE_imp (pe_callTy h1 hg hm hv ha (hn := hn) (hdb := hdb) (he := he) (hpl := hpl)) (up_ca h2)
end
end DL
namespace DL
open PySem L2

/-! ### 11. The built-ins -/
def lenK : CaK
  | [.list ds], Q => Q (.int ds.length)
  | [.tuple ds], Q => Q (.int ds.length)
  | [.str z], Q => z.length ≤ sizeLine ∧ Q (.int z.length)
  | _, _ => False
def maxK : CaK
  | [.int i, .int j], Q => Q (.int (if j > i then j else i))
  | [.list ds], Q => ∃ ns : List Int, ds = ns.map .int ∧ 0 < ns.length ∧ ∀ m, m ∈ ns → (∀ y, y ∈ ns → y ≤ m) → Q (.int m)
  | _, _ => False
def minK : CaK
  | [.int i, .int j], Q => Q (.int (if j < i then j else i))
  | [.list ds], Q => ∃ ns : List Int, ds = ns.map .int ∧ 0 < ns.length ∧ ∀ m, m ∈ ns → (∀ y, y ∈ ns → m ≤ y) → Q (.int m)
  | _, _ => False
def absK : CaK
  | [.int i], Q => Q (.int (if i < 0 then -i else i))
  | _, _ => False
def intK : CaK
  | [.int i], Q => Q (.int i)
  | [.bool b], Q => Q (.int (if b then 1 else 0))
  | [.str a], Q => ∃ n, PySem.intText? a = some n ∧ a.length ≤ 640 ∧ Q (.int n)
  | _, _ => False
def sumK : CaK
  | [.list ds], Q => ∃ ns : List Int, ds = ns.map .int ∧ Q (.int ns.sum)
  | _, _ => False
def allK : CaK
  | [.list ds], Q => ∃ bs : List Bool, ds = bs.map .bool ∧ Q (.bool (bs.all id))
  | _, _ => False
def anyK : CaK
  | [.list ds], Q => ∃ bs : List Bool, ds = bs.map .bool ∧ Q (.bool (bs.any id))
  | _, _ => False
def strK : CaK
  | [.int i], Q => i.natAbs.log2 < 1920 ∧ Q (.str (toString i))
  | [.str a], Q => Q (.str a)
  | _, _ => False
theorem dp_ints {K : PySem.W.Frag} {H : Hp} : ∀ {ns : List Int} {vs : List V}, DpAll K H vs (ns.map .int) → vs = ns.map .int
  | [], _, h => by cases h; rfl
  | n :: ns, _, h => by
    cases h with
    | cons h1 h2 =>
      cases h1
      rw [dp_ints h2]
      rfl
theorem dp_bools {K : PySem.W.Frag} {H : Hp} : ∀ {ns : List Bool} {vs : List V}, DpAll K H vs (ns.map .bool) → vs = ns.map .bl
  | [], _, h => by cases h; rfl
  | n :: ns, _, h => by
    cases h with
    | cons h1 h2 =>
      cases h1
      rw [dp_bools h2]
      rfl
section
variable {X : Cx}
theorem ca_len : CaD X (.builtin "len") lenK := ⟨_, call_len_seq.or call_len_str, fun vs ds H Q Qd h q k => by
  unfold lenK at q
  split at q
  · cases h with
    | cons h1 h2 =>
      cases h2
      cases h1 with
      | lst hq ha => exact .inl ⟨_, _, rfl, .inl hq, by rw [dpAll_len ha]; exact k _ _ rfl q⟩
  · cases h with
    | cons h1 h2 =>
      cases h2
      cases h1 with
      | tup hq ha => exact .inl ⟨_, _, rfl, .inr hq, by rw [dpAll_len ha]; exact k _ _ rfl q⟩
  · cases h with
    | cons h1 h2 =>
      cases h2
      cases h1
      exact .inr ⟨_, rfl, q.1, k _ _ rfl q.2⟩
  · exact q.elim⟩
theorem ca_max (hc : X.calm = true) : CaD X (.builtin "max") maxK := ⟨_, (call_max2 hc).or (cr_max hc), fun vs ds H Q Qd h q k => by
  unfold maxK at q
  split at q
  · cases h with
    | cons h1 h2 =>
      cases h2 with
      | cons h2 h3 =>
        cases h3
        cases h1
        cases h2
        exact .inl ⟨_, _, rfl, k _ _ rfl q⟩
  · obtain ⟨ns, rfl, hl, q⟩ := q
    cases h with
    | cons h1 h2 =>
      cases h2
      cases h1 with
      | lst hq ha =>
        rw [dp_ints ha] at hq
        exact .inr ⟨_, ns, rfl, hq, hl, fun m hm hy => k _ _ rfl (q m hm hy)⟩
  · exact q.elim⟩
theorem ca_min (hc : X.calm = true) : CaD X (.builtin "min") minK := ⟨_, (call_min2 hc).or (cr_min hc), fun vs ds H Q Qd h q k => by
  unfold minK at q
  split at q
  · cases h with
    | cons h1 h2 =>
      cases h2 with
      | cons h2 h3 =>
        cases h3
        cases h1
        cases h2
        exact .inl ⟨_, _, rfl, k _ _ rfl q⟩
  · obtain ⟨ns, rfl, hl, q⟩ := q
    cases h with
    | cons h1 h2 =>
      cases h2
      cases h1 with
      | lst hq ha =>
        rw [dp_ints ha] at hq
        exact .inr ⟨_, ns, rfl, hq, hl, fun m hm hy => k _ _ rfl (q m hm hy)⟩
  · exact q.elim⟩
theorem ca_abs : CaD X (.builtin "abs") absK := ⟨_, call_abs, fun vs ds H Q Qd h q k => by
  unfold absK at q
  split at q
  · cases h with
    | cons h1 h2 =>
      cases h2
      cases h1
      exact ⟨_, rfl, k _ _ rfl q⟩
  · exact q.elim⟩
theorem ca_int : CaD X (.type "int") intK := ⟨_, call_int1.or call_int_str, fun vs ds H Q Qd h q k => by
  unfold intK at q
  split at q
  · cases h with
    | cons h1 h2 =>
      cases h2
      cases h1
      exact .inl (.inl ⟨_, rfl, k _ _ rfl q⟩)
  · cases h with
    | cons h1 h2 =>
      cases h2
      cases h1
      exact .inl (.inr ⟨_, rfl, k _ _ rfl q⟩)
  · cases h with
    | cons h1 h2 =>
      cases h2
      cases h1
      obtain ⟨n, e1, e2, q⟩ := q
      exact .inr ⟨_, n, rfl, e1, e2, k _ _ rfl q⟩
  · exact q.elim⟩
theorem ca_str : CaD X (.type "str") strK := ⟨_, call_str_int.or SkE.call_str_str, fun vs ds H Q Qd h q k => by
  unfold strK at q
  split at q
  · cases h with
    | cons h1 h2 =>
      cases h2
      cases h1
      exact .inl ⟨_, rfl, q.1, k _ _ rfl q.2⟩
  · cases h with
    | cons h1 h2 =>
      cases h2
      cases h1
      exact .inr ⟨_, rfl, k _ _ rfl q⟩
  · exact q.elim⟩
theorem ca_sum (hc : X.calm = true) : CaD X (.builtin "sum") sumK := ⟨_, cr_sum hc, fun vs ds H Q Qd h q k => by
  unfold sumK at q
  split at q
  · obtain ⟨ns, rfl, q⟩ := q
    cases h with
    | cons h1 h2 =>
      cases h2
      cases h1 with
      | lst hq ha =>
        rw [dp_ints ha] at hq
        exact ⟨_, ns, rfl, hq, k _ _ rfl q⟩
  · exact q.elim⟩
theorem ca_all (hc : X.calm = true) : CaD X (.builtin "all") allK := ⟨_, cr_all hc, fun vs ds H Q Qd h q k => by
  unfold allK at q
  split at q
  · obtain ⟨ns, rfl, q⟩ := q
    cases h with
    | cons h1 h2 =>
      cases h2
      cases h1 with
      | lst hq ha =>
        rw [dp_bools ha] at hq
        exact ⟨_, ns, rfl, hq, k _ _ rfl q⟩
  · exact q.elim⟩
theorem ca_any (hc : X.calm = true) : CaD X (.builtin "any") anyK := ⟨_, cr_any hc, fun vs ds H Q Qd h q k => by
  unfold anyK at q
  split at q
  · obtain ⟨ns, rfl, q⟩ := q
    cases h with
    | cons h1 h2 =>
      cases h2
      cases h1 with
      | lst hq ha =>
        rw [dp_bools ha] at hq
        exact ⟨_, ns, rfl, hq, k _ _ rfl q⟩
  · exact q.elim⟩
end
/-! isinstance -/
def kindN : PyData → String
  | .none => "NoneType"
  | .bool _ => "bool"
  | .int _ => "int"
  | .str _ => "str"
  | .list _ => "list"
  | .tuple _ => "tuple"
  | .dict _ => "dict"
def isIn (n : String) (d : PyData) : Option Bool := kitB (kindN d) n
theorem tyx_of {K : PySem.W.Frag} {H : Hp} {v : V} {d : PyData} (h : Dp K H v d) : TyX K H v (.type (kindN d)) := by
  cases h with
  | non => exact .base .non
  | bl b => exact .base (.bl b)
  | int i => exact .base (.int i)
  | str x => exact .base (.str x)
  | lst hq ha =>
    rcases hq with (hq | ⟨o, hq⟩) | ⟨o, its, n, h1, h2, _⟩
    · exact .base (.lst hq)
    · exact .base (.frz hq)
    · exact .kList h1 h2
  | tup hq ha =>
    rcases hq with (hq | ⟨o, hq⟩) | ⟨o, its, n, h1, h2, _⟩
    · exact .base (.tup hq)
    · exact .fTuple hq
    · exact .kTuple h1 h2
def dIsi (n : String) (ta : TD) : TD := fun S Q => ta S fun t S1 => t.pln = true ∧ match isIn n t.frz with
  | some b => Q (.dat (.bool b)) S1
  | none => False
def dIsi2 (n m : String) (ta : TD) : TD := fun S Q => ta S fun t S1 => t.pln = true ∧ match isIn n t.frz, isIn m t.frz with
  | some b, some c => Q (.dat (.bool (b || c))) S1
  | _, _ => False
section
variable {X : Cx} {e : Expr} {ta : TD} {p p1 p2 p3 pos : Pos} {k1 : Nat}
theorem pd_isi {n : String} (he : PD X e ta) (hg : Gl X "isinstance") (hm : X.mg "isinstance" = none) (hgT : Gl X n) (hmT : X.mg n = none) (hvT : bootBuiltins n = some (.type n)) (hn : (n : Str) ≠ "__name__" := by decide) (hdT : ((n : Str) == ("__debug__" : Str)) = false := by decide)
    (hs : starEach [e, .Name n p1] X.env = (false, eval e X.env) :: starEach [.Name n p1] X.env := by rfl) (hs2 : starEach [.Name n p1] X.env = (false, eval (.Name n p1) X.env) :: starEach [] X.env := by rfl)
    (hpl : (backTo pos (starEach [.Name n p1] X.env)).any (·.1) = false := by rfl) : PD X (.Call (.Name "isinstance" p) [e, .Name n p1] [] pos) (dIsi n ta) := by
  refine PE_imp (pe_callB call_isi hg hm (by decide +kernel) (pa_cons he (pa_cons (pe_bltn (v := .ty n) hgT hmT hvT rfl hn hdT) pa_nil hs2) hs) (hpl := hpl) (he := hs)) ?_
  rintro σ H Q ⟨M, S, Qd, g, q, k⟩
  refine ⟨M, S, _, g, q, fun t S1 v H1 h1 g1 s1 => ?_⟩
  obtain ⟨pl, h1⟩ := h1
  split at h1
  · next b eb => exact ⟨v, .ty n, _, _, b, rfl, .ty n, tyx_of (g1.dp pl), kit_ty eb, k _ S1 _ H1 h1 (g1.drop.fv rfl) (s1.less sub1)⟩
  · exact h1.elim
theorem pd_isi2 {n m : String} (he : PD X e ta) (hg : Gl X "isinstance") (hm : X.mg "isinstance" = none) (hgT : Gl X n) (hmT : X.mg n = none) (hvT : bootBuiltins n = some (.type n)) (hgU : Gl X m) (hmU : X.mg m = none) (hvU : bootBuiltins m = some (.type m))
    (hn : (n : Str) ≠ "__name__" := by decide) (hdT : ((n : Str) == ("__debug__" : Str)) = false := by decide) (hn2 : (m : Str) ≠ "__name__" := by decide) (hdU : ((m : Str) == ("__debug__" : Str)) = false := by decide)
    (hs : starEach [e, .Tuple [.Name n p1, .Name m p2] k1 p3] X.env = (false, eval e X.env) :: starEach [.Tuple [.Name n p1, .Name m p2] k1 p3] X.env := by rfl)
    (hs2 : starEach [.Tuple [.Name n p1, .Name m p2] k1 p3] X.env = (false, eval (.Tuple [.Name n p1, .Name m p2] k1 p3) X.env) :: starEach [] X.env := by rfl)
    (hs3 : starEach [.Name n p1, .Name m p2] X.env = (false, eval (.Name n p1) X.env) :: starEach [.Name m p2] X.env := by rfl) (hs4 : starEach [.Name m p2] X.env = (false, eval (.Name m p2) X.env) :: starEach [] X.env := by rfl)
    (hpl : (backTo pos (starEach [.Tuple [.Name n p1, .Name m p2] k1 p3] X.env)).any (·.1) = false := by rfl) : PD X (.Call (.Name "isinstance" p) [e, .Tuple [.Name n p1, .Name m p2] k1 p3] [] pos) (dIsi2 n m ta) := by
  refine PE_imp (pe_callB call_isiT hg hm (by decide +kernel) (pa_cons he (pa_cons (pe_tup (pa_cons (pe_bltn (v := .ty n) hgT hmT hvT rfl hn hdT) (pa_cons (pe_bltn (v := .ty m) hgU hmU hvU rfl hn2 hdU) pa_nil hs4) hs3)) pa_nil hs2) hs) (hpl := hpl) (he := hs)) ?_
  rintro σ H Q ⟨M, S, Qd, g, q, k⟩
  refine ⟨M, S, _, g, q, fun t S1 v H1 h1 g1 s1 => ⟨by show 2 ≤ sizeLine; decide, fun tp htp => ?_⟩⟩
  obtain ⟨pl, h1⟩ := h1
  obtain ⟨g2, s2⟩ := g1.grow (o := .tup [.ty n, .ty m]) htp
  split at h1
  · next b c eb ec =>
    refine ⟨v, tp, [.ty n, .ty m], _, [.type n, .type m], b || c, rfl, upd_same, .cons (.ty n) (.cons (.ty m) .nil), tyx_of (g2.dp pl), ?_, k _ S1 _ _ h1 (g2.drop.fv rfl) ((s1.trans s2).less sub1)⟩
    refine kitAny_cons (kit_ty eb) (fun e0 => ?_) (fun e1 => by rw [e1]; rfl)
    rw [e0, Bool.false_or]
    exact kitAny_cons (kit_ty ec) (fun e0 => by rw [e0]; exact kitAny_nil) (fun e1 => e1)
  · exact h1.elim
end
theorem isIn_int (d : PyData) : isIn "int" d = some (match d with
  | .int _ => true
  | .bool _ => true
  | _ => false) := by
  cases d <;> (show kitB _ _ = _) <;> simp only [kindN] <;> decide +kernel
theorem isIn_bool (d : PyData) : isIn "bool" d = some (match d with
  | .bool _ => true
  | _ => false) := by
  cases d <;> (show kitB _ _ = _) <;> simp only [kindN] <;> decide +kernel
theorem isIn_list (d : PyData) : isIn "list" d = some (match d with
  | .list _ => true
  | _ => false) := by
  cases d <;> (show kitB _ _ = _) <;> simp only [kindN] <;> decide +kernel
theorem isIn_tuple (d : PyData) : isIn "tuple" d = some (match d with
  | .tuple _ => true
  | _ => false) := by
  cases d <;> (show kitB _ _ = _) <;> simp only [kindN] <;> decide +kernel
theorem isIn_str (d : PyData) : isIn "str" d = some (match d with
  | .str _ => true
  | _ => false) := by
  cases d <;> (show kitB _ _ = _) <;> simp only [kindN] <;> decide +kernel
end DL
namespace DL
open PySem L2

/-! ### 12. Statements -/
def dNext : TSD := fun D S => D.nx S
def dSeq (t u : TSD) : TSD := fun D S => t { D with nx := u D } S
def dBreak : TSD := fun D S => D.bk S
def dCont : TSD := fun D S => D.ct S
def dNever : TSD := fun _ _ => False
def dDrop (t : TD) : TSD := fun D S => t S fun _ S1 => D.nx S1
def dRet (t : TD) : TSD := fun D S => t S D.rt
def dRetN : TSD := fun D S => D.rt (.dat .none) S
def dIf (c : TTD) (t u : TSD) : TSD := fun D S => c S fun b S1 => if b = true then t D S1 else u D S1
def dSet (i : Nat) (t : TD) : TSD := fun D S => t S fun x S1 => i < S1.length ∧ D.nx (S1.set i (some x))
def dWhile (c : TTD) (t : TSD) : TSD := fun D S => ∃ W : Nat → SS → Prop, (∃ m, W m S) ∧ ∀ m S, W m S →
  c S fun b S1 => if b = true then t { D with nx := fun S' => ∃ m', m' < m ∧ W m' S', ct := fun S' => ∃ m', m' < m ∧ W m' S', bk := D.nx } S1 else D.nx S1
section
variable {X : Cx} {st : Stmt} {rest : List Stmt} {t u : TSD} {e : Expr} {te : TD} {pos : Pos}
theorem pssd_nil : PSsD X [] dNext := PSs_imp pss_nil fun D σ H ⟨M, S, Dd, g, q, kn, _⟩ => kn S σ H q g .refl
theorem upS_seq {K : PySem.W.Frag} {t u : TSD} : ∀ D σ H, upS K (dSeq t u) D σ H → tSeq (upS K t) (upS K u) D σ H := by
  rintro D σ H ⟨M, S, Dd, g, q, kn, kr, kb, kc⟩
  refine ⟨M, S, _, g, q, fun S' σ' H' h g1 s1 => ⟨M, S', Dd, g1, h, ?_, ?_, ?_, ?_⟩, kr, kb, kc⟩
  · exact fun S2 σ2 H2 h2 g2 s2 => kn S2 σ2 H2 h2 g2 (s1.trans s2)
  · exact fun x S2 v σ2 H2 h2 g2 s2 => kr x S2 v σ2 H2 h2 g2 (s1.trans s2)
  · exact fun S2 σ2 H2 h2 g2 s2 => kb S2 σ2 H2 h2 g2 (s1.trans s2)
  · exact fun S2 σ2 H2 h2 g2 s2 => kc S2 σ2 H2 h2 g2 (s1.trans s2)
theorem pssd_cons (h1 : PSD X st t) (h2 : PSsD X rest u) : PSsD X (st :: rest) (dSeq t u) := PSs_imp (pss_cons h1 h2) upS_seq
theorem pssd_one (h1 : PSD X st t) : PSsD X [st] t := pss_one h1
theorem psd_pass : PSD X (.Pass pos) dNext := PS_imp ps_pass fun D σ H ⟨M, S, Dd, g, q, kn, _⟩ => kn S σ H q g .refl
theorem psd_break : PSD X (.Break pos) dBreak := PS_imp ps_break fun D σ H ⟨M, S, Dd, g, q, _, _, kb, _⟩ => kb S σ H q g .refl
theorem psd_cont : PSD X (.Continue pos) dCont := PS_imp ps_continue fun D σ H ⟨M, S, Dd, g, q, _, _, _, kc⟩ => kc S σ H q g .refl
theorem psd_doc {x j pos pos'} : PSD X (.Expr (.Constant (.str x) j pos) pos') dNext := PS_imp ps_doc fun D σ H ⟨M, S, Dd, g, q, kn, _⟩ => kn S σ H q g .refl
theorem psd_never : PSD X st dNever := ⟨fun _ _ _ _ _ _ ⟨_, _, _, _, q, _⟩ => q.elim⟩
theorem pssd_never {sts : List Stmt} : PSsD X sts dNever := ⟨fun _ _ _ _ _ _ ⟨_, _, _, _, q, _⟩ => q.elim⟩
theorem psd_expr (he : PD X e te) (hs : swapsWith e none pos.line X.env = pure false := by rfl) : PSD X (.Expr e pos) (dDrop te) := by
  refine PS_imp (ps_expr he hs) ?_
  rintro D σ H ⟨M, S, Dd, g, q, kn, kr, kb, kc⟩
  exact ⟨M, S, _, g, q, fun x S1 v H1 h1 g1 s1 => kn S1 σ H1 h1 g1.drop (s1.less drop_sub)⟩
theorem psd_ret (he : PD X e te) : PSD X (.Return (some e) pos) (dRet te) := by
  refine PS_imp (ps_ret he) ?_
  rintro D σ H ⟨M, S, Dd, g, q, kn, kr, kb, kc⟩
  exact ⟨M, S, _, g, q, fun x S1 v H1 h1 g1 s1 => kr x S1 v σ H1 h1 g1 s1⟩
theorem psd_retN : PSD X (.Return none pos) dRetN := by
  refine PS_imp ps_retN ?_
  rintro D σ H ⟨M, S, Dd, g, q, kn, kr, kb, kc⟩
  exact kr _ S _ σ H q (g.fv rfl) (step_flat .refl)
theorem psd_if {c : Expr} {a b : List Stmt} {tc : TTD} (hc : PTD X c tc) (ha : PSsD X a t) (hb : PSsD X b u) : PSD X (.If c a b pos) (dIf tc t u) := by
  refine PS_imp (ps_if hc ha hb) ?_
  rintro D σ H ⟨M, S, Dd, g, q, kn, kr, kb, kc⟩
  refine ⟨M, S, _, g, q, fun b S1 H1 h1 g1 s1 => ?_⟩
  cases b with
  | true => exact iteT ⟨M, S1, Dd, g1, h1, fun S2 σ2 H2 h2 g2 s2 => kn S2 σ2 H2 h2 g2 (s1.trans s2), fun x S2 v σ2 H2 h2 g2 s2 => kr x S2 v σ2 H2 h2 g2 (s1.trans s2), fun S2 σ2 H2 h2 g2 s2 => kb S2 σ2 H2 h2 g2 (s1.trans s2), fun S2 σ2 H2 h2 g2 s2 => kc S2 σ2 H2 h2 g2 (s1.trans s2)⟩
  | false => exact iteF ⟨M, S1, Dd, g1, h1, fun S2 σ2 H2 h2 g2 s2 => kn S2 σ2 H2 h2 g2 (s1.trans s2), fun x S2 v σ2 H2 h2 g2 s2 => kr x S2 v σ2 H2 h2 g2 (s1.trans s2), fun S2 σ2 H2 h2 g2 s2 => kb S2 σ2 H2 h2 g2 (s1.trans s2), fun S2 σ2 H2 h2 g2 s2 => kc S2 σ2 H2 h2 g2 (s1.trans s2)⟩
theorem upS_set {K : PySem.W.Frag} {i : Nat} {te : TD} : ∀ D σ H, upS K (dSet i te) D σ H → tAsg (up K te) (gName i) D σ H := by
  rintro D σ H ⟨M, S, Dd, g, q, kn, kr, kb, kc⟩
  refine ⟨M, S, _, g, q, fun x S1 v H1 h1 g1 s1 => ?_⟩
  obtain ⟨hi, h1⟩ := h1
  exact kn _ _ H1 h1 (g1.put i hi) (s1.less (put_sub hi))
theorem psd_set {i : Nat} {x : Str} {pos' : Pos} (hN : X.N.Nodup) (he : PD X e te) (hi : X.N[i]? = some x := by rfl) (hx : Loc X.env.scope x := by exact Or.inl rfl) (hs : swapsWith e (some (.Name x pos')) pos.line X.env = pure false := by rfl)
    (hf : X.fn x = true ∨ X.env.scope.names.lookup x = some .local := by first | exact .inl rfl | exact .inr rfl) : PSD X (.Assign [.Name x pos'] e pos) (dSet i te) := PS_imp (ps_set hN hi hx he (hs := hs) (hf := hf)) upS_set
theorem psd_while {c : Expr} {body : List Stmt} {tc : TTD} (hp : PassesOwn (model X.prog X.w) X.A X.env X.xe) (hc : PTD X c tc) (hb : PSsD X body t) : PSD X (.While c body [] pos) (dWhile tc t) := by
  refine PS_imp (ps_while hp hc hb) ?_
  rintro D σ H ⟨M, S, Dd, g, ⟨W, ⟨m0, w0⟩, q⟩, kn, kr, kb, kc⟩
  refine ⟨fun m σ' H' => ∃ S', W m S' ∧ Good _ M S' σ' H' ∧ Step M S H S' H', ⟨m0, S, w0, g, .refl⟩, ?_⟩
  rintro m σ1 H1 ⟨S1, w1, g1, s1⟩
  refine ⟨M, S1, _, g1, q m S1 w1, fun b S2 H2 h2 g2 s2 => ?_⟩
  cases b with
  | false => exact iteF (kn S2 σ1 H2 h2 g2 (s1.trans s2))
  | true =>
    refine iteT ⟨fun σ' H' => ∃ m', m' < m ∧ ∃ S', W m' S' ∧ Good _ M S' σ' H' ∧ Step M S H S' H', fun σ' H' ⟨m', hm, S', w', g', s'⟩ => ⟨m', hm, S', w', g', s'⟩, M, S2, _, g2, h2, ?_, ?_, ?_, ?_⟩
    · rintro S3 σ3 H3 ⟨m', hm, w3⟩ g3 s3
      exact ⟨m', hm, S3, w3, g3, (s1.trans s2).trans s3⟩
    · exact fun x S3 v σ3 H3 h3 g3 s3 => kr x S3 v σ3 H3 h3 g3 ((s1.trans s2).trans s3)
    · exact fun S3 σ3 H3 h3 g3 s3 => kn S3 σ3 H3 h3 g3 ((s1.trans s2).trans s3)
    · rintro S3 σ3 H3 ⟨m', hm, w3⟩ g3 s3
      exact ⟨m', hm, S3, w3, g3, (s1.trans s2).trans s3⟩
end

/-! ### 13. Targets -/
def dgName (i : Nat) : TGD := fun t S Q => i < S.length ∧ Q (S.set i (some t))
abbrev TGsD := List PyData → SS → (SS → Prop) → Prop
def dgNil : TGsD := fun ds S Q => ds = [] ∧ Q S
def dgCons (g : TGD) (gs : TGsD) : TGsD := fun ds S Q => match ds with
  | d :: r => g (.dat d) S fun S1 => gs r S1 Q
  | [] => False
def dgTup (n : Nat) (gs : TGsD) : TGD := fun t S Q => match t with
  | .dat (.tuple ds) => ds.length = n ∧ gs ds S Q
  | _ => False
def upGs (K : PySem.W.Frag) (td : TGsD) : TGs := fun vs σ H Q => ∃ (M : Addr → Prop) (ds : List PyData) (S : SS) (Qd : SS → Prop), Good K M S σ H ∧ DpAll K (hidS M S H) vs ds ∧ td ds S Qd ∧
  ∀ S' σ' H', Qd S' → Good K M S' σ' H' → Step M S H S' H' → Q σ' H'
abbrev PGsD (X : Cx) (es : List Expr) (t : TGsD) : Prop := PGs X es (upGs X.K t)
theorem PGs_imp {X : Cx} {es : List Expr} {t t' : TGs} (h : PGs X es t) (k : ∀ vs σ H Q, t' vs σ H Q → t vs σ H Q) : PGs X es t' := ⟨fun pins s σ H v u Q I r w => h.run pins s σ H v u Q I r (k _ _ _ _ w)⟩
section
variable {X : Cx} {e : Expr} {es : List Expr} {g : TGD} {gs : TGsD} {pos : Pos} {te : TD}
theorem pgd_name {i : Nat} {x : Str} (hN : X.N.Nodup) (hi : X.N[i]? = some x := by rfl) (hx : Loc X.env.scope x := by exact Or.inl rfl) (hf : X.fn x = true ∨ X.env.scope.names.lookup x = some .local := by first | exact .inl rfl | exact .inr rfl) : PGD X (.Name x pos) (dgName i) := by
  refine PG_imp (pg_name hN hi hx (hf := hf)) ?_
  rintro v σ H Q ⟨M, t, S, Qd, g, ⟨hi, q⟩, k⟩
  exact k _ _ H q (g.put i hi) (Step.refl.less (put_sub hi))
theorem pgsd_nil : PGsD X [] dgNil := PGs_imp pgs_nil fun vs σ H Q ⟨M, ds, S, Qd, g, h, q, k⟩ => by
  obtain ⟨rfl, q⟩ := q
  cases h
  exact ⟨rfl, k S σ H q g .refl⟩
theorem pgsd_cons (h1 : PGD X e g) (h2 : PGsD X es gs) (hs : (assignEach (e :: es) X.env).map (·.2) = assign e X.env :: (assignEach es X.env).map (·.2) := by rfl) : PGsD X (e :: es) (dgCons g gs) := by
  refine PGs_imp (pgs_cons h1 h2 hs) ?_
  rintro vs σ H Q ⟨M, ds, S, Qd, g, h, q, k⟩
  cases h with
  | nil => exact q.elim
  | @cons v vs d ds h1 h2 =>
    refine ⟨_, _, rfl, M, .dat d, S, _, g.flat h1, q, fun S1 σ1 H1 q1 g1 s1 => ?_⟩
    have s0 : Step M S H S1 H1 := (step_flat .refl).trans s1
    exact ⟨M, ds, S1, Qd, g1, dpAll_mono s0.same _ _ h2, q1, fun S2 σ2 H2 q2 g2 s2 => k S2 σ2 H2 q2 g2 (s0.trans s2)⟩
theorem pgd_tup {k n : Nat} (hc : X.calm = true) (h : PGsD X es gs) (hn : (assignEach es X.env).length = n := by rfl) (hst : (assignEach es X.env).findIdx? (·.1) = none := by rfl) : PGD X (.Tuple es k pos) (dgTup n gs) := by
  refine PG_imp (pg_tup hc h hn hst) ?_
  rintro v σ H Q ⟨M, t, S, Qd, g, q, k⟩
  unfold dgTup at q
  split at q
  · next ds =>
    obtain ⟨hl, q⟩ := q
    have hd := g.dat
    cases hd with
    | tup hq ha =>
      exact ⟨_, _, rfl, sqt_mono (fun a o e => (hide_some.mp e).2) hq, by rw [dpAll_len ha]; exact hl, M, ds, S, Qd, g.drop, ha, q, fun S1 σ1 H1 q1 g1 s1 => k S1 σ1 H1 q1 g1 ((Step.refl.less drop_sub).trans s1)⟩
  · exact q.elim
/-- target = value -/
def dAsg (t : TD) (g : TGD) : TSD := fun D S => t S fun x S1 => g x S1 D.nx
theorem psd_asg {tg : Expr} (he : PD X e te) (hg : PGD X tg g) (hs : swapsWithSole [tg] e pos.line X.env = pure false := by rfl) (hw : swappedStores [tg] e X.env = pure none := by rfl)
    (h1 : (assignEach [tg] X.env).map (·.2) = [assign tg X.env] := by rfl) : PSD X (.Assign [tg] e pos) (dAsg te g) := by
  refine PS_imp (ps_asg he hg hs hw h1) ?_
  rintro D σ H ⟨M, S, Dd, g, q, kn, kr, kb, kc⟩
  exact ⟨M, S, _, g, q, fun x S1 v H1 h1 g1 s1 => ⟨M, x, S1, _, g1, h1, fun S2 σ2 H2 q2 g2 s2 => kn S2 σ2 H2 q2 g2 (s1.trans s2)⟩⟩
end

/-! ### 14. What is walked; for -/
abbrev TID := SS → (List PyData → SS → Prop) → Prop
/-- at each turn, over any heap that keeps what was seen, the walk yields the next of ds -/
def Walks (K : PySem.W.Frag) (Hb : Hp) (J : It) (ds : List PyData) : Prop := ∀ (i : Nat) (H : Hp) (B : Addr → Prop), Same Hb (hide B H) → (∀ a, B a → H a ≠ none) →
  (∀ d, ds[i]? = some d → J.go i H ∧ ∀ x H', J.yld i H x H' → (∀ a o, H a = some o → H' a = some o) ∧ Dp K (hide B H') x d) ∧ (ds.length ≤ i → J.stop i H)
def upI (K : PySem.W.Frag) (wd : TID) : TI := fun σ H R => ∃ (M : Addr → Prop) (S : SS) (Qd : List PyData → SS → Prop), Good K M S σ H ∧ wd S Qd ∧
  ∀ ds S' J H', Qd ds S' → Good K M S' σ H' → Step M S H S' H' → Walks K (hidS M S' H') J ds → R J H'
abbrev PID (X : Cx) (tg iter : Expr) (wd : TID) : Prop := PI X tg iter (upI X.K wd)
theorem PI_imp {X : Cx} {tg e : Expr} {t t' : TI} (h : PI X tg e t) (k : ∀ σ H R, t' σ H R → t σ H R) : PI X tg e t' := ⟨fun pins s σ H R I w => h.run pins s σ H R I (k _ _ _ w)⟩
theorem Good.ext {K : PySem.W.Frag} {M : Addr → Prop} {S : SS} {σ : St} {H H' : Hp} (g : Good K M S σ H) (e : ∀ a o, H a = some o → H' a = some o) : Good K M S σ H' ∧ Step M S H S H' := by
  have eq : ∀ a, Bd M S a → H' a = H a := fun a ha => by
    cases q : H a with
    | none => exact absurd q (g.tracked a ha)
    | some o => exact e a o q
  have st : Step M S H S H' := ⟨fun a o hb q => ⟨hb, e a o q⟩, fun a ha => eq a (.inl ha)⟩
  exact ⟨⟨slotsH_frame st.same (fun a ha => eq a (.inr ha)) g.sl, g.nd, g.dj, fun a ha => by rw [eq a (.inl ha)]; exact g.tk a ha⟩, st⟩
def dForL (g : TGD) (t : TSD) : List PyData → DE → SS → Prop
  | [], D, S => D.nx S
  | d :: ds, D, S => g (.dat d) S fun S1 => t { D with nx := dForL g t ds D, ct := dForL g t ds D, bk := D.nx } S1
def dFor (wd : TID) (g : TGD) (t : TSD) : TSD := fun D S => wd S fun ds S1 => dForL g t ds D S1
theorem upS_for {K : PySem.W.Frag} {wd : TID} {g : TGD} {t : TSD} : ∀ D σ H, upS K (dFor wd g t) D σ H → tFor (upI K wd) (upG K g) (upS K t) D σ H := by
  rintro D σ H ⟨M, S, Dd, g0, q, kn, kr, kb, kc⟩
  refine ⟨M, S, _, g0, q, fun ds S1 J H1 q1 g1 s1 wk => ?_⟩
  refine ⟨fun i m σ' H' => m = ds.length - i ∧ i ≤ ds.length ∧ ∃ S', dForL g t (ds.drop i) Dd S' ∧ Good K M S' σ' H' ∧ Step M S1 H1 S' H', ⟨_, rfl, Nat.zero_le _, S1, q1, g1, .refl⟩, ?_⟩
  rintro i m σ2 H2 ⟨rfl, hi, S2, q2, g2, s2⟩
  have w := wk i H2 (Bd M S2) s2.same g2.tracked
  by_cases hlt : i < ds.length
  · refine .inr ?_
    obtain ⟨d, hd⟩ : ∃ d, ds[i]? = some d := ⟨_, List.getElem?_eq_getElem hlt⟩
    obtain ⟨w1, w2⟩ := w.1 d hd
    have ed : ds.drop i = d :: ds.drop (i + 1) := by
      rw [List.drop_eq_getElem_cons hlt]
      congr 1
      exact Option.some.inj ((List.getElem?_eq_getElem hlt).symm.trans hd)
    rw [ed] at q2
    refine ⟨w1, fun σ' H' => ∃ S', dForL g t (ds.drop (i + 1)) Dd S' ∧ Good K M S' σ' H' ∧ Step M S1 H1 S' H', fun σ' H' h => ⟨_, by omega, rfl, hlt, h⟩, fun x H' hy => ?_⟩
    obtain ⟨ex, dx⟩ := w2 x H' hy
    obtain ⟨g3, s3⟩ := g2.ext ex
    have g4 := g3.flat dx
    refine ⟨M, .dat d, S2, _, g4, q2, fun S5 σ5 H5 q5 g5 s5 => ?_⟩
    have s6 : Step M S1 H1 S5 H5 := (s2.trans (step_flat s3)).trans s5
    refine ⟨M, S5, _, g5, q5, ?_, ?_, ?_, ?_⟩
    · exact fun S7 σ7 H7 q7 g7 s7 => ⟨S7, q7, g7, s6.trans s7⟩
    · exact fun x S7 v σ7 H7 q7 g7 s7 => kr x S7 v σ7 H7 q7 g7 ((s1.trans s6).trans s7)
    · exact fun S7 σ7 H7 q7 g7 s7 => kn S7 σ7 H7 q7 g7 ((s1.trans s6).trans s7)
    · exact fun S7 σ7 H7 q7 g7 s7 => ⟨S7, q7, g7, s6.trans s7⟩
  · have hn : ds.length ≤ i := by omega
    rw [List.drop_eq_nil_of_le hn] at q2
    exact .inl ⟨w.2 hn, kn S2 σ2 H2 q2 g2 (s1.trans s2)⟩
/-- a list or a tuple -/
def dwSeq (ta : TD) : TID := fun S R => ta S fun t S1 => match t with
  | .dat (.list ds) => R ds S1
  | _ => False
def dwTup (ta : TD) : TID := fun S R => ta S fun t S1 => match t with
  | .dat (.tuple ds) => R ds S1
  | _ => False
section
variable {X : Cx} {tg iter : Expr} {wd : TID} {g : TGD} {t : TSD} {body : List Stmt} {pos : Pos} {ta : TD} {tA : TAD}
theorem pid_list (h : PD X iter ta) : PID X tg iter (dwSeq ta) := by
  refine PI_imp (pi_list h) ?_
  rintro σ H R ⟨M, S, Qd, g, q, k⟩
  refine ⟨M, S, _, g, q, fun t S1 v H1 h1 g1 s1 => ?_⟩
  split at h1
  · next ds =>
    have hd := g1.dat
    cases hd with
    | lst hq ha =>
      refine ⟨_, rfl, ⟨_, sql_mono (fun a o e => (hide_some.mp e).2) hq⟩, k ds S1 _ H1 h1 g1.drop (s1.less drop_sub) fun i H B e tr => ?_⟩
      have pl : Same (hide B H) H := fun a o q => (hide_some.mp q).2
      have hq' := sql_mono pl (sql_mono e hq)
      refine ⟨fun d hd => ?_, fun hn => ⟨_, hq', by rw [dpAll_len ha]; exact hn⟩⟩
      obtain ⟨w, ew, hw⟩ := dpAll_get (dpAll_mono e _ _ ha) hd
      refine ⟨⟨_, w, hq', ew⟩, ?_⟩
      rintro x H' ⟨rfl, hx⟩
      have := hx _ hq'
      rw [ew] at this
      cases this
      exact ⟨fun a o q => q, hw⟩
  · exact h1.elim
theorem pid_tup (h : PD X iter ta) : PID X tg iter (dwTup ta) := by
  refine PI_imp (pi_tup h) ?_
  rintro σ H R ⟨M, S, Qd, g, q, k⟩
  refine ⟨M, S, _, g, q, fun t S1 v H1 h1 g1 s1 => ?_⟩
  split at h1
  · next ds =>
    have hd := g1.dat
    cases hd with
    | tup hq ha =>
      refine ⟨_, rfl, ⟨_, sqt_mono (fun a o e => (hide_some.mp e).2) hq⟩, k ds S1 _ H1 h1 g1.drop (s1.less drop_sub) fun i H B e tr => ?_⟩
      have pl : Same (hide B H) H := fun a o q => (hide_some.mp q).2
      have hq' := sqt_mono pl (sqt_mono e hq)
      refine ⟨fun d hd => ?_, fun hn => ⟨_, hq', by rw [dpAll_len ha]; exact hn⟩⟩
      obtain ⟨w, ew, hw⟩ := dpAll_get (dpAll_mono e _ _ ha) hd
      refine ⟨⟨_, w, hq', ew⟩, ?_⟩
      rintro x H' ⟨rfl, hx⟩
      have := hx _ hq'
      rw [ew] at this
      cases this
      exact ⟨fun a o q => q, hw⟩
  · exact h1.elim
/-- range(n), range(a, b) -/
def rngD (lo : Int) (n : Nat) : List PyData := (List.range n).map fun i : Nat => PyData.int (lo + (i : Int))
theorem walks_rng {K : PySem.W.Frag} {Hb : Hp} {lo : Int} {n : Nat} : Walks K Hb (Itr lo n) (rngD lo n) := by
  intro i H B e tr
  have hl : (rngD lo n).length = n := by simp [rngD]
  refine ⟨fun d hd => ?_, fun hn => by rw [hl] at hn; exact hn⟩
  have hi : i < n := by rw [← hl]; exact (List.getElem?_eq_some_iff.mp hd).1
  refine ⟨hi, ?_⟩
  rintro x H' ⟨rfl, rfl⟩
  have : d = .int (lo + (i : Int)) := by
    have := hd
    simp only [rngD, List.getElem?_map, List.getElem?_range hi, Option.map_some] at this
    exact (Option.some.inj this).symm
  subst this
  exact ⟨fun a o q => q, .int _⟩
def dwRng1 (tA : TAD) : TID := fun S R => tA S fun ts S1 => match ts with
  | [.dat (.int j)] => -(2 ^ 62) ≤ j ∧ j < 2 ^ 62 ∧ R (rngD 0 j.toNat) S1
  | _ => False
def dwRng2 (tA : TAD) : TID := fun S R => tA S fun ts S1 => match ts with
  | [.dat (.int i), .dat (.int j)] => (-(2 ^ 62) ≤ i ∧ i < 2 ^ 62 ∧ -(2 ^ 62) ≤ j ∧ j < 2 ^ 62) ∧ R (rngD i (j - i).toNat) S1
  | _ => False
theorem pid_rng1 {a : Expr} {p pos : Pos} (hg : Gl X "range") (hm : X.mg "range" = none) (ha : PAD X [a] tA) (hs : starEach [a] X.env = [(false, eval a X.env)] := by rfl) : PID X tg (.Call (.Name "range" p) [a] [] pos) (dwRng1 tA) := by
  refine PI_imp (pi_range1 hg hm ha hs) ?_
  rintro σ H R ⟨M, S, Qd, g, q, k⟩
  refine ⟨M, S, _, g, q, fun ts S1 vs H1 h1 hl g1 s1 => ?_⟩
  split at h1
  · next j =>
    have hd := g1.dps hl rfl
    have e := dp_ints (ns := [j]) hd
    exact ⟨j, e, h1.1, h1.2.1, k _ S1 _ H1 h1.2.2 (g1.drops (by simp [hl])) (s1.less drops_sub) walks_rng⟩
  · exact h1.elim
theorem pid_rng2 {a b : Expr} {p pos : Pos} (hg : Gl X "range") (hm : X.mg "range" = none) (ha : PAD X [a, b] tA) (hs : starEach [a, b] X.env = [(false, eval a X.env), (false, eval b X.env)] := by rfl) (hs2 : starEach [b] X.env = [(false, eval b X.env)] := by rfl) : PID X tg (.Call (.Name "range" p) [a, b] [] pos) (dwRng2 tA) := by
  refine PI_imp (pi_range2 hg hm ha hs hs2) ?_
  rintro σ H R ⟨M, S, Qd, g, q, k⟩
  refine ⟨M, S, _, g, q, fun ts S1 vs H1 h1 hl g1 s1 => ?_⟩
  split at h1
  · next i j =>
    have hd := g1.dps hl rfl
    have e := dp_ints (ns := [i, j]) hd
    exact ⟨i, j, e, h1.1, k _ S1 _ H1 h1.2 (g1.drops (by simp [hl])) (s1.less drops_sub) walks_rng⟩
  · exact h1.elim
theorem psd_for (hp : PassesOwn (model X.prog X.w) X.A X.env X.xe) (hc : X.calm = true) (hi : PID X tg iter wd) (hg : PGD X tg g) (hb : PSsD X body t) (hs : ∀ x, foldedSetIterable iter X.env x = pure x := by intro _; rfl) :
    PSD X (.For tg iter body [] pos) (dFor wd g t) := PS_imp (ps_for hp hc hi hg hb hs) upS_for
end
end DL
namespace DL
open PySem L2

/-! ### 15. zip, enumerate -/
def enumD : Nat → List PyData → List PyData
  | _, [] => []
  | i, d :: ds => .tuple [.int (i : Int), d] :: enumD (i + 1) ds
def zipD : List PyData → List PyData → List PyData
  | d :: ds, e :: es => .tuple [d, e] :: zipD ds es
  | _, _ => []
theorem enumD_len : ∀ (ds : List PyData) (n : Nat), (enumD n ds).length = ds.length
  | [], _ => rfl
  | d :: ds, n => congrArg Nat.succ (enumD_len ds (n + 1))
theorem enumD_get : ∀ {ds : List PyData} {n i : Nat} {d : PyData}, (enumD n ds)[i]? = some d → ∃ e, ds[i]? = some e ∧ d = .tuple [.int ((n + i : Nat) : Int), e]
  | e :: ds, n, 0, d, h => by
    simp [enumD] at h
    exact ⟨e, by simp, by simp [h]⟩
  | e :: ds, n, i + 1, d, h => by
    obtain ⟨e', h1, h2⟩ := enumD_get (ds := ds) (n := n + 1) (i := i) (by simpa [enumD] using h)
    exact ⟨e', by simpa using h1, by rw [h2]; congr 3; omega⟩
  | [], n, i, d, h => by simp [enumD] at h
theorem zipD_len : ∀ (ds es : List PyData), (zipD ds es).length = min ds.length es.length
  | d :: ds, e :: es => by simp only [zipD, List.length_cons, zipD_len ds es]; omega
  | [], _ => by simp [zipD]
  | _ :: _, [] => by simp [zipD]
theorem zipD_get : ∀ {ds es : List PyData} {i : Nat} {d : PyData}, (zipD ds es)[i]? = some d → ∃ x y, ds[i]? = some x ∧ es[i]? = some y ∧ d = .tuple [x, y]
  | x :: ds, y :: es, 0, d, h => by
    simp [zipD] at h
    exact ⟨x, y, by simp, by simp, h.symm⟩
  | x :: ds, y :: es, i + 1, d, h => by
    simpa using zipD_get (ds := ds) (es := es) (i := i) (by simpa [zipD] using h)
  | [], _, i, d, h => by simp [zipD] at h
  | _ :: _, [], i, d, h => by simp [zipD] at h
def dwEnum (tA : TAD) : TID := fun S R => tA S fun ts S1 => match ts with
  | [.dat (.list ds)] => R (enumD 0 ds) S1
  | _ => False
def dwZip (tA : TAD) : TID := fun S R => tA S fun ts S1 => match ts with
  | [.dat (.list ds), .dat (.list es)] => R (zipD ds es) S1
  | _ => False
theorem new_tup {K : PySem.W.Frag} {B : Addr → Prop} {H : Hp} {p : Addr} {vs : List V} {ds : List PyData} (tr : ∀ a, B a → H a ≠ none) (hp : H p = none) (h : DpAll K (hide B H) vs ds) :
    (∀ a o, H a = some o → upd H p (.tup vs) a = some o) ∧ Dp K (hide B (upd H p (.tup vs))) (.ref p) (.tuple ds) := by
  have hn : ¬ B p := fun z => tr p z hp
  have ex : ∀ a o, H a = some o → upd H p (.tup vs) a = some o := fun a o q => by rw [upd_ne (ne_of_none q hp)]; exact q
  refine ⟨ex, .tup (SqT.of (hide_some.mpr ⟨hn, upd_same⟩)) (dpAll_mono (fun a o q => ?_) _ _ h)⟩
  obtain ⟨q1, q2⟩ := hide_some.mp q
  exact hide_some.mpr ⟨q1, ex a o q2⟩
section
variable {X : Cx} {tA : TAD}
theorem pid_enum {e : Expr} {p pos tpos : Pos} {elts : List Expr} {kk : Nat} (hg : Gl X "enumerate") (hm : X.mg "enumerate" = none) (ha : PAD X [e] tA) (hs : starEach [e] X.env = [(false, eval e X.env)] := by rfl) :
    PID X (.Tuple elts kk tpos) (.Call (.Name "enumerate" p) [e] [] pos) (dwEnum tA) := by
  refine PI_imp (pi_enum hg hm ha hs) ?_
  rintro σ H R ⟨M, S, Qd, g, q, k⟩
  refine ⟨M, S, _, g, q, fun ts S1 vs H1 h1 hl g1 s1 => ?_⟩
  split at h1
  · next ds =>
    obtain ⟨v, rfl⟩ : ∃ v, vs = [v] := by
      match vs, hl with
      | [v], _ => exact ⟨v, rfl⟩
    have g2 : Good X.K M (some (.dat (.list ds)) :: S1) (some v :: σ) H1 := g1
    have hd := g2.dat
    cases hd with
    | @lst a xs _ hq ha =>
      refine ⟨a, xs, rfl, sql_mono (fun a o e => (hide_some.mp e).2) hq, k _ S1 _ H1 h1 g2.drop (s1.less drop_sub) fun i H B e tr => ?_⟩
      have pl : Same (hide B H) H := fun a o q => (hide_some.mp q).2
      have hq' := sql_mono pl (sql_mono e hq)
      refine ⟨fun d hd => ?_, fun hn => ⟨_, hq', by rw [dpAll_len ha, ← enumD_len ds 0]; exact hn⟩⟩
      obtain ⟨x, ex, rfl⟩ := enumD_get hd
      obtain ⟨w, ew, hw⟩ := dpAll_get (dpAll_mono e _ _ ha) ex
      refine ⟨⟨xs, w, hq', ew⟩, ?_⟩
      rintro y H' ⟨T, x', rfl, hT, rfl, hx⟩
      have := hx xs hq'
      rw [ew] at this
      cases this
      have e0 : ((0 + i : Nat) : Int) = ((i : Nat) : Int) := by simp
      rw [e0]
      exact new_tup tr hT (.cons (.int _) (.cons hw .nil))
  · exact h1.elim
theorem pid_zip {e e2 : Expr} {p pos tpos : Pos} {elts : List Expr} {kk : Nat} (hg : Gl X "zip") (hm : X.mg "zip" = none) (ha : PAD X [e, e2] tA)
    (hs : starEach [e, e2] X.env = (false, eval e X.env) :: starEach [e2] X.env := by rfl) (hpl : (backTo pos (starEach [e2] X.env)).any (·.1) = false := by rfl) :
    PID X (.Tuple elts kk tpos) (.Call (.Name "zip" p) [e, e2] [] pos) (dwZip tA) := by
  refine PI_imp (pi_zip hg hm ha hs hpl) ?_
  rintro σ H R ⟨M, S, Qd, g, q, k⟩
  refine ⟨M, S, _, g, q, fun ts S1 vs H1 h1 hl g1 s1 => ?_⟩
  split at h1
  · next ds es =>
    obtain ⟨v, w, rfl⟩ : ∃ v w, vs = [v, w] := by
      match vs, hl with
      | [v, w], _ => exact ⟨v, w, rfl⟩
    have g2 : Good X.K M (some (.dat (.list ds)) :: some (.dat (.list es)) :: S1) (some v :: some w :: σ) H1 := g1
    have hd : Dp X.K (hidS M S1 H1) v (.list ds) := dp_mono (same_less fun a ha => by simpa [ownsS, T.owns] using ha) _ _ g2.dat
    have he := g2.drop.dat
    cases hd with
    | @lst a xs _ hq ha =>
      cases he with
      | @lst b ys _ hq2 ha2 =>
        have pl1 : Same (hidS M S1 H1) H1 := fun a o e => (hide_some.mp e).2
        refine ⟨a, b, xs, ys, rfl, sql_mono pl1 hq, sql_mono pl1 hq2, k _ S1 _ H1 h1 g2.drop.drop (s1.less fun a ha => drop_sub a (drop_sub a ha)) fun i H B e tr => ?_⟩
        have pl : Same (hide B H) H := fun a o q => (hide_some.mp q).2
        have hq' := sql_mono pl (sql_mono e hq)
        have hq2' := sql_mono pl (sql_mono e hq2)
        refine ⟨fun d hd => ?_, fun hn => ⟨_, _, hq', hq2', ?_⟩⟩
        · obtain ⟨x, y, ex, ey, rfl⟩ := zipD_get hd
          obtain ⟨u, eu, hu⟩ := dpAll_get (dpAll_mono e _ _ ha) ex
          obtain ⟨z, ez, hz⟩ := dpAll_get (dpAll_mono e _ _ ha2) ey
          refine ⟨⟨xs, ys, u, z, hq', hq2', eu, ez⟩, ?_⟩
          rintro y' H' ⟨T, x', z', rfl, hT, rfl, hx, hy⟩
          have e1 := hx xs hq'
          have e2 := hy ys hq2'
          rw [eu] at e1
          rw [ez] at e2
          cases e1
          cases e2
          exact new_tup tr hT (.cons hu (.cons hz .nil))
        · rw [dpAll_len ha, dpAll_len ha2]
          rw [zipD_len] at hn
          omega
  · exact h1.elim
end

/-! ### 16. A slot's own thing changed -/
theorem ho_ne_own {sh : Sh} {vs : List V} {a : Addr} : sh.ho vs ≠ .own a := by cases sh <;> simp [Sh.ho]
section
variable {K : PySem.W.Frag} {M : Addr → Prop} {S : SS} {σ : St} {H : Hp}
theorem Good.store {x : T} {v : V} {i : Nat} {sh : Sh} {a : Addr} {ts ts' : List T} (g : Good K M (some x :: S) (some v :: σ) H) (e : S[i]? = some (some (.node sh a ts))) (f : List V → List V)
    (hf : ∀ Hd H' vs, x.holds K Hd H' v → holdsL K Hd H' ts vs → holdsL K Hd H' ts' (f vs)) (hn : (x.owns ++ ownsL ts).Nodup → (ownsL ts').Nodup) (hs : ∀ c ∈ ownsL ts', c ∈ x.owns ++ ownsL ts) :
    ∃ vs, σ[i]? = some (some (.ref a)) ∧ H a = some (sh.ho vs) ∧ vs.length = ts.length ∧ Good K M (S.set i (some (.node sh a ts'))) σ (upd H a (sh.ho (f vs))) ∧ Step M (some x :: S) H (S.set i (some (.node sh a ts'))) (upd H a (sh.ho (f vs))) := by
  obtain ⟨y, e1, g1⟩ := g.take (i := i + 1) (t := .node sh a ts) (by simpa using e)
  have e2 : (some x :: S).set (i + 1) none = some x :: S.set i none := rfl
  rw [e2] at g1
  have tk := take_sub (S := some x :: S) (i := i + 1) (t := .node sh a ts) (by simpa using e)
  rw [e2] at tk
  obtain ⟨⟨y', ey, hy⟩, ⟨v', ev, hv⟩, hS⟩ := g1.sl
  cases ey
  cases ev
  simp only [T.holds] at hy
  obtain ⟨rfl, vs, ho, hx, hl⟩ := hy
  have nd := g1.nd
  simp only [ownsS, T.owns, List.cons_append, List.append_assoc] at nd
  obtain ⟨na, nd⟩ := List.nodup_cons.mp nd
  simp only [List.mem_append, not_or] at na
  obtain ⟨na1, na2, na3, na4⟩ := na
  obtain ⟨nm, nd2, dm⟩ := List.nodup_append.mp nd
  obtain ⟨nts, nd3, dts⟩ := List.nodup_append.mp nd2
  obtain ⟨nx, nS, dx⟩ := List.nodup_append.mp nd3
  have nxts : (x.owns ++ ownsL ts).Nodup := List.nodup_append.mpr ⟨nx, nts, fun c hc d hd q => dts d hd c (List.mem_append.mpr (.inl hc)) q.symm⟩
  have hsz : ∀ c, c ∈ ownsL ts' → c ∈ ownsL ts ∨ c ∈ x.owns := fun c hc => (List.mem_append.mp (hs c hc)).symm
  -- the new heap
  have aT : ¬ M a := fun z => g1.dj a (by simp only [ownsS, T.owns, List.cons_append]; exact List.mem_cons_self ..) z
  have sub : ∀ c, Bd M (some (.node sh a ts') :: S.set i none) c → Bd M (some (.node sh a ts) :: some x :: S.set i none) c := fun c hc => by
    simp only [Bd, ownsS, T.owns, List.cons_append, List.mem_cons, List.mem_append] at hc ⊢
    have := hsz c
    grind
  have st : Step M (some (.node sh a ts) :: some x :: S.set i none) H (some (.node sh a ts') :: S.set i none) (upd H a (sh.ho (f vs))) := by
    refine ⟨fun c o hb q => ⟨fun z => hb (sub c z), ?_⟩, fun c hc => upd_ne fun z => aT (z ▸ hc)⟩
    have hca : c ≠ a := fun z => hb (.inr (by rw [z]; simp only [ownsS, T.owns, List.cons_append]; exact List.mem_cons_self ..))
    rw [upd_ne hca]
    exact q
  have kx : ∀ c ∈ x.owns, upd H a (sh.ho (f vs)) c = H c := fun c hc => upd_ne fun z => na3 (z ▸ hc)
  have kts : ∀ c ∈ ownsL ts, upd H a (sh.ho (f vs)) c = H c := fun c hc => upd_ne fun z => na2 (z ▸ hc)
  have kS : ∀ c ∈ ownsS (S.set i none), upd H a (sh.ho (f vs)) c = H c := fun c hc => upd_ne fun z => na4 (z ▸ hc)
  have km : ∀ c ∈ sh.more, upd H a (sh.ho (f vs)) c = H c := fun c hc => upd_ne fun z => na1 (z ▸ hc)
  have gn : Good K M (some (.node sh a ts') :: S.set i none) (some (.ref a) :: σ) (upd H a (sh.ho (f vs))) := by
    refine ⟨⟨⟨.ref a, rfl, ?_⟩, slotsH_frame st.same kS hS⟩, ?_, fun c hc z => ?_, fun c hc => ?_⟩
    · simp only [T.holds, true_and]
      exact ⟨f vs, upd_same, Sh.ext_frame hx km, hf _ _ _ (holds_frame st.same x v kx hv) (holdsL_frame st.same ts vs kts hl)⟩
    · simp only [ownsS, T.owns, List.cons_append, List.append_assoc]
      refine List.nodup_cons.mpr ⟨?_, List.nodup_append.mpr ⟨nm, List.nodup_append.mpr ⟨hn nxts, nS, fun c hc d hd q => ?_⟩, fun c hc d hd q => ?_⟩⟩
      · simp only [List.mem_append, not_or]
        exact ⟨na1, fun z => (hsz a z).elim na2 na3, na4⟩
      · rcases hsz c hc with h | h
        · exact dts c h d (List.mem_append.mpr (.inr hd)) q
        · exact dx c h d hd q
      · rcases List.mem_append.mp hd with hd | hd
        · rcases hsz d hd with h | h
          · exact dm c hc d (List.mem_append.mpr (.inl h)) q
          · exact dm c hc d (List.mem_append.mpr (.inr (List.mem_append.mpr (.inl h)))) q
        · exact dm c hc d (List.mem_append.mpr (.inr (List.mem_append.mpr (.inr hd)))) q
    · rcases sub c (.inr hc) with h | h
      · have hc' := hc
        simp only [ownsS, T.owns, List.cons_append, List.mem_cons, List.mem_append] at hc'
        have : c ∈ ownsS (some (T.node sh a ts) :: some x :: S.set i none) := by
          simp only [ownsS, T.owns, List.cons_append, List.mem_cons, List.mem_append]
          have := hsz c
          grind
        exact g1.dj c this z
      · exact g1.dj c h z
    · have hca : c ≠ a := fun z => aT (z ▸ hc)
      rw [upd_ne hca]
      exact g1.tk c hc
  have e3 : σ[i]? = some (some (.ref a)) := by simpa using e1
  have gb := gn.back e3
  rw [List.set_set] at gb
  have hi : i < S.length := (List.getElem?_eq_some_iff.mp e).1
  refine ⟨vs, e3, ho, holdsL_len hl, gb, (Step.refl.less tk).trans (st.less fun c hc => ?_)⟩
  have := (ownsS_some_perm (.node sh a ts') S i hi).subset hc
  simpa only [ownsS] using this
end
theorem ownsL_map (ts : List T) : ownsL ts = ownsS (ts.map some) := (ownsS_map ts).symm
theorem map_some_set (ts : List T) (j : Nat) (x : T) : (ts.set j x).map some = (ts.map some).set j (some x) := by rw [List.map_set]
theorem ownsL_set_nd {ts : List T} {j : Nat} {x : T} (h : (x.owns ++ ownsL ts).Nodup) : (ownsL (ts.set j x)).Nodup := by
  rw [ownsL_map, map_some_set]
  by_cases hj : j < (ts.map some).length
  · refine (ownsS_some_perm x _ j hj).nodup_iff.mpr (((ownsS_none_sub _ j).append_left _).nodup ?_)
    rw [← ownsL_map]
    exact h
  · rw [List.set_eq_of_length_le (by omega), ← ownsL_map]
    exact (List.nodup_append.mp h).2.1
theorem ownsL_set_sub {ts : List T} {j : Nat} {x : T} : ∀ c ∈ ownsL (ts.set j x), c ∈ x.owns ++ ownsL ts := fun c hc => by
  rw [ownsL_map, map_some_set] at hc
  by_cases hj : j < (ts.map some).length
  · have := (ownsS_some_perm x _ j hj).subset hc
    rcases List.mem_append.mp this with h | h
    · exact List.mem_append.mpr (.inl h)
    · refine List.mem_append.mpr (.inr ?_)
      rw [ownsL_map]
      exact (ownsS_none_sub _ j).subset h
  · rw [List.set_eq_of_length_le (by omega), ← ownsL_map] at hc
    exact List.mem_append.mpr (.inr hc)
theorem holdsL_set {K : PySem.W.Frag} {Hd H : Hp} {x : T} {v : V} (hx : x.holds K Hd H v) : ∀ {ts : List T} {vs : List V} {j : Nat}, holdsL K Hd H ts vs → holdsL K Hd H (ts.set j x) (vs.set j v)
  | [], vs, j, h => by simp only [holdsL] at h; subst h; simp [holdsL]
  | t :: ts, vs, 0, h => by
    simp only [holdsL] at h
    obtain ⟨u, r, rfl, h1, h2⟩ := h
    simp only [List.set_cons_zero, holdsL]
    exact ⟨v, r, rfl, hx, h2⟩
  | t :: ts, vs, j + 1, h => by
    simp only [holdsL] at h
    obtain ⟨u, r, rfl, h1, h2⟩ := h
    simp only [List.set_cons_succ, holdsL]
    exact ⟨u, _, rfl, h1, holdsL_set hx h2⟩
theorem ownsL_append : ∀ (ts us : List T), ownsL (ts ++ us) = ownsL ts ++ ownsL us
  | [], us => by simp [ownsL]
  | t :: ts, us => by simp only [List.cons_append, ownsL, ownsL_append ts us, List.append_assoc]
theorem holdsL_snoc {K : PySem.W.Frag} {Hd H : Hp} {x : T} {v : V} (hx : x.holds K Hd H v) : ∀ {ts : List T} {vs : List V}, holdsL K Hd H ts vs → holdsL K Hd H (ts ++ [x]) (vs ++ [v])
  | [], vs, h => by
    simp only [holdsL] at h
    subst h
    simp only [List.nil_append, holdsL]
    exact ⟨v, [], rfl, hx, rfl⟩
  | t :: ts, vs, h => by
    simp only [holdsL] at h
    obtain ⟨u, r, rfl, h1, h2⟩ := h
    simp only [List.cons_append, holdsL]
    exact ⟨u, _, rfl, h1, holdsL_snoc hx h2⟩
theorem ownsL_snoc_nd {ts : List T} {x : T} (h : (x.owns ++ ownsL ts).Nodup) : (ownsL (ts ++ [x])).Nodup := by
  rw [ownsL_append]
  simp only [ownsL, List.append_nil]
  exact List.perm_append_comm.nodup_iff.mp h
theorem ownsL_snoc_sub {ts : List T} {x : T} : ∀ c ∈ ownsL (ts ++ [x]), c ∈ x.owns ++ ownsL ts := fun c hc => by
  rw [ownsL_append] at hc
  simp only [ownsL, List.append_nil, List.mem_append] at hc ⊢
  exact hc.symm
/-- xs[k] = e, xs a slot's own list -/
def dSetIx (i : Nat) (te tk : TD) : TSD := fun D S => te S fun x S1 => (match S1[i]? with
    | some (some _) => True
    | _ => False) ∧ tk S1 fun u S2 => match S2[i]?, u with
  | some (some (.node .lst a ts)), .dat (.int j) => match ixN ts.length j with
    | some n => D.nx (S2.set i (some (.node .lst a (ts.set n x))))
    | none => False
  | _, _ => False
/-- xs.append(e) -/
def dApp (i : Nat) (te : TD) : TSD := fun D S => (match S[i]? with
    | some (some (.node .lst _ _)) => True
    | _ => False) ∧ te S fun x S1 => match S1[i]? with
  | some (some (.node .lst a ts)) => ts.length < sizeLine ∧ D.nx (S1.set i (some (.node .lst a (ts ++ [x]))))
  | _ => False
section
variable {X : Cx} {e k : Expr} {te tk : TD} {pos p pp sp : Pos} {y : Str}
theorem upS_setIx {K : PySem.W.Frag} {i : Nat} : ∀ D σ H, upS K (dSetIx i te tk) D σ H → tAsg (up K te) (gSub (tVar i) (up K tk) rSetL) D σ H := by
  rintro D σ H ⟨M, S, Dd, g, q, kn, kr, kb, kc⟩
  refine ⟨M, S, _, g, q, fun x S1 v H1 h1 g1 s1 => ?_⟩
  obtain ⟨h0, h1⟩ := h1
  split at h0
  · next t0 e0 =>
    obtain ⟨v0, ev, _⟩ := slotsH_get g1.drop.sl e0
    refine ⟨v0, ev, _, S1, _, g1.apart, h1, fun u S2 w H2 h2 g2 s2 => ?_⟩
    split at h2
    · next a ts j e2 =>
      split at h2
      · next n en =>
        obtain ⟨g3, s3⟩ := g1.join g2 s2
        have g4 : Good K M (some x :: S2) (some v :: σ) H2 := g3.swap.drop
        cases g2.int
        obtain ⟨vs, e5, ho, hl, g5, s5⟩ := g4.store e2 (fun vs => vs.set n v) (fun Hd H' vs hx hl => holdsL_set hx hl) ownsL_set_nd ownsL_set_sub
        rw [ev] at e5
        cases e5
        refine ⟨a, vs, j, n, rfl, rfl, ho, by rw [hl]; exact en, kn _ _ _ h2 g5 ?_⟩
        refine (s1.trans s3).trans ((Step.refl.less fun c hc => ?_).trans s5)
        simp only [ownsS, List.mem_append] at hc ⊢
        rcases hc with h | h
        · exact .inl h
        · exact .inr (.inr h)
      · exact h2.elim
    · exact h2.elim
  · exact h0.elim
theorem psd_setIx (i : Nat) (he : PD X e te) (hk : PD X k tk) (hN : X.N[i]? = some y := by rfl) (hv : Vis X.env.scope y := by first | exact Or.inl rfl | exact Or.inr (Or.inl rfl) | exact Or.inr (Or.inr rfl)) (hd : (y == ("__debug__" : Str)) = false := by decide)
    (hcd : (y == ("__classdict__" : Str)) = false := by decide) (ha : ∀ v, assign (.Subscript (.Name y p) k sp) X.env v = (do
      let ov ← holding [v] (eval (.Name y p) X.env)
      let iv ← holding [v, ov] (eval k X.env)
      standAt sp
      holding [v, ov, iv] (setItem ov iv v)
      release [v, ov, iv] []) := by intro _; rfl) (hs : swapsWithSole [.Subscript (.Name y p) k sp] e pos.line X.env = pure false := by rfl) (hw : swappedStores [.Subscript (.Name y p) k sp] e X.env = pure none := by rfl)
    (h1 : (assignEach [.Subscript (.Name y p) k sp] X.env).map (·.2) = [assign (.Subscript (.Name y p) k sp) X.env] := by rfl) : PSD X (.Assign [.Subscript (.Name y p) k sp] e pos) (dSetIx i te tk) :=
  PS_imp (ps_asg he (pg_sub (pe_var hN hv hd hcd) hk set_list ha) hs hw h1) upS_setIx
theorem upS_app {K : PySem.W.Frag} {i : Nat} : ∀ D σ H, upS K (dApp i te) D σ H → tDrop (tBM K "list" rAppend (tVar i) (tCons (up K te) tNil)) D σ H := by
  rintro D σ H ⟨M, S, Dd, g, ⟨h0, q⟩, kn, kr, kb, kc⟩
  split at h0
  · next a ts e0 =>
    obtain ⟨v0, ev, hv⟩ := slotsH_get g.sl e0
    simp only [T.holds] at hv
    obtain ⟨rfl, vs0, ho0, _, _⟩ := hv
    refine ⟨_, ev, .inl ⟨rfl, _, SqL.of ho0⟩, M, S, _, g, q, fun x S1 v H1 h1 g1 s1 => ?_⟩
    split at h1
    · next b us e1 =>
      obtain ⟨hlen, h1⟩ := h1
      obtain ⟨vs, e5, ho, hl, g5, s5⟩ := g1.store e1 (fun vs => vs ++ [v]) (fun Hd H' vs hx hl => holdsL_snoc hx hl) ownsL_snoc_nd ownsL_snoc_sub
      rw [ev] at e5
      cases e5
      exact ⟨_, vs, v, rfl, rfl, ho, by rw [hl]; exact hlen, kn _ _ _ h1 g5 (s1.trans s5)⟩
    · exact h1.elim
  · exact h0.elim
theorem psd_app (i : Nat) (he : PD X e te) (hN : X.N[i]? = some y := by rfl) (hv : Vis X.env.scope y := by first | exact Or.inl rfl | exact Or.inr (Or.inl rfl) | exact Or.inr (Or.inr rfl)) (hd : (y == ("__debug__" : Str)) = false := by decide)
    (hcd : (y == ("__classdict__" : Str)) = false := by decide) (hst : starEach [e] X.env = (false, eval e X.env) :: starEach [] X.env := by rfl) (hs : swapsWith (.Call (.Attribute (.Name y p) "append" pp) [e] [] sp) none pos.line X.env = pure false := by rfl)
    (hx : PE X (.Call (.Attribute (.Name y p) "append" pp) [e] [] sp) (tBM X.K "list" rAppend (tVar i) (tCons (up X.K te) tNil))) : PSD X (.Expr (.Call (.Attribute (.Name y p) "append" pp) [e] [] sp) pos) (dApp i te) :=
  PS_imp (ps_expr hx hs) upS_app
end
end DL
namespace DL
open PySem L2

/-! ### 17. What a def promises, over trees; its body; its call -/
abbrev FSp := List T → (T → SS → Prop) → Prop
def spD (K : PySem.W.Frag) (n : Nat) (f : FSp) : Sp := fun vs H Q _ => ∃ (M : Addr → Prop) (As : List T) (Qd : T → SS → Prop), As.length = n ∧ Good K M (As.map some) (vs.map some) H ∧ f As Qd ∧
  ∀ t A' v H', Qd t A' → Good K M (some t :: A') (some v :: vs.map some) H' → Step M (As.map some) H (some t :: A') H' → Q v H'
def keepP : T → Option T → Option T
  | .node _ a _, some (.node sh b ts) => if a = b then some (.node sh b ts) else none
  | _, _ => none
def keepPs : List T → SS → SS
  | [], _ => []
  | u :: As, s :: S => keepP u s :: keepPs As S
  | _ :: As, [] => none :: keepPs As []
def bodyE (Qd : T → SS → Prop) (As : List T) : DE := { nx := fun S' => Qd (.dat .none) (keepPs As S'), rt := fun t S' => Qd t (keepPs As S') }
theorem keepPs_sub : ∀ (As : List T) (S : SS), (ownsS (keepPs As S)).Sublist (ownsS S)
  | [], S => by simp [keepPs, ownsS]
  | u :: As, s :: S => by
    have ih := keepPs_sub As S
    cases s with
    | none =>
      have e : keepP u none = none := by cases u <;> rfl
      simp only [keepPs, e, ownsS]
      exact ih
    | some t =>
      cases u with
      | dat d =>
        simp only [keepPs, keepP, ownsS]
        exact ih.trans (List.sublist_append_right ..)
      | node sh a ts =>
        cases t with
        | dat d =>
          simp only [keepPs, keepP, ownsS, T.owns, List.nil_append]
          exact ih
        | node sh2 b ts2 =>
          simp only [keepPs, keepP]
          split
          · simp only [ownsS]; exact ih.append_left _
          · simp only [ownsS]; exact ih.trans (List.sublist_append_right ..)
        | any =>
          simp only [keepPs, keepP, ownsS, T.owns, List.nil_append]
          exact ih
      | any =>
        simp only [keepPs, keepP, ownsS]
        exact ih.trans (List.sublist_append_right ..)
  | u :: As, [] => by
    have ih := keepPs_sub As []
    simp only [keepPs, ownsS] at ih ⊢
    exact ih
theorem keepPs_hold {K : PySem.W.Frag} {Hd H Hd' H' : Hp} : ∀ {As : List T} {vs : List V} {S : SS} {σ : St}, holdsL K Hd H As vs → slotsH K Hd' H' S σ → slotsH K Hd' H' (keepPs As S) (vs.map some)
  | [], vs, S, σ, h, k => by
    simp only [holdsL] at h
    subst h
    simp [keepPs, slotsH]
  | u :: As, vs, [], σ, h, k => by
    simp only [holdsL] at h
    obtain ⟨v, r, rfl, h1, h2⟩ := h
    have ih := keepPs_hold (S := []) (σ := σ) h2 k
    simpa [keepPs, slotsH] using ih
  | u :: As, vs, s :: S, [], h, k => by cases s <;> exact k.elim
  | u :: As, vs, none :: S, w :: σ, h, k => by
    simp only [holdsL] at h
    obtain ⟨v, r, rfl, h1, h2⟩ := h
    have ih := keepPs_hold (S := S) (σ := σ) h2 k
    have e : keepP u none = none := by cases u <;> rfl
    simpa [keepPs, e, slotsH] using ih
  | u :: As, vs, some t :: S, w :: σ, h, k => by
    simp only [holdsL] at h
    obtain ⟨v, r, rfl, h1, h2⟩ := h
    obtain ⟨⟨x, ex, hx⟩, k2⟩ := k
    have ih := keepPs_hold (S := S) (σ := σ) h2 k2
    simp only [keepPs, List.map_cons]
    cases q : keepP u (some t) with
    | none => simpa [slotsH] using ih
    | some t' =>
      refine ⟨⟨v, rfl, ?_⟩, ih⟩
      cases u with
      | dat d => simp [keepP] at q
      | node sh a ts =>
        cases t with
        | dat d => simp [keepP] at q
        | node sh2 b ts2 =>
          simp only [keepP] at q
          split at q
          · next e =>
            subst e
            cases q
            simp only [T.holds] at h1 hx ⊢
            exact ⟨h1.1, hx.2⟩
          · cases q
        | any => simp [keepP] at q
      | any => simp [keepP] at q
section
variable {K : PySem.W.Frag} {M : Addr → Prop} {S : SS} {σ : St} {H : Hp}
theorem ownsS_rep : ∀ n : Nat, ownsS (List.replicate n none) = []
  | 0 => rfl
  | n + 1 => by simp only [List.replicate_succ, ownsS, ownsS_rep n]
theorem slotsH_rep {Hd H : Hp} : ∀ n : Nat, slotsH K Hd H (List.replicate n none) (List.replicate n none)
  | 0 => trivial
  | n + 1 => slotsH_rep n
theorem Good.pad (g : Good K M S σ H) (n : Nat) : Good K M (S ++ List.replicate n none) (σ ++ List.replicate n none) H := by
  have e : ownsS (S ++ List.replicate n none) = ownsS S := by rw [ownsS_append, ownsS_rep, List.append_nil]
  refine g.sub (fun a ha => by rw [e] at ha; exact ha) (by rw [e]; exact g.nd) ?_
  exact (slotsH_append (slotsH_len g.sl)).mpr ⟨g.sl, slotsH_rep n⟩
theorem pad_owns {n : Nat} : ownsS (S ++ List.replicate n none) = ownsS S := by rw [ownsS_append, ownsS_rep, List.append_nil]
theorem Step.of_owns {S0 S1 : SS} {H' : Hp} (h : Step M S H S1 H') (e : ∀ a, a ∈ ownsS S0 ↔ a ∈ ownsS S) : Step M S0 H S1 H' :=
  ⟨fun a o hb q => h.1 a o (fun z => hb (z.elim .inl fun z => .inr ((e a).mpr z))) q, h.2⟩
end
/-- THE RULE for a def of the text -/
theorem fn_ok {P : Program} {w : World} {K : PySem.W.Frag} {mg : Str → Option Value} {base : Heap} {x qual : Str} {st : Stmt} {f : Addr} {fd : FuncData} {N ps : List Str} {k : Nat} {sp : FSp}
    (F : Fun K x qual st f fd) (Sc : FnScope N ps (defScope st))
    (hbody : ∀ (cdv : Value) (A : Around) (outer : List Env) (s : Shared) (H : Hp) (E : XK), Room k (A.deeper (PyProof.Rows.envOfC qual (defScope st) s.heap.objs.size f cdv)) →
      ∃ td : TSD, PSsD (cxOf CX0 P w K mg base N qual (defScope st) f cdv A outer s H E).nox (defBody st) td ∧ ∀ As Qd, As.length = ps.length → sp As Qd → td (bodyE Qd As) (As.map some ++ List.replicate (N.length - As.length) none)) :
    FnOk P w K mg base CX0 (k + 1) f fd ps (spD K ps.length sp) := by
  refine F.ok Sc (fun vs H Q E h => ?_) (fun cdv A outer s H vs Q E hr h => ?_)
  · obtain ⟨M, As, Qd, e, g, _⟩ := h
    have := slotsH_len g.sl
    simp only [List.length_map] at this
    omega
  · obtain ⟨M, As, Qd, e, g, q, kk⟩ := h
    obtain ⟨td, hd, hq⟩ := hbody cdv A outer s H E hr
    have hl : As.length = vs.length := by
      have := slotsH_len g.sl
      simpa using this
    refine ⟨_, hd, M, _, _, ?_, hq As Qd e q, ?_, ?_, ?_, ?_⟩
    · have := g.pad (N.length - As.length)
      unfold L2.start
      rw [← hl]
      exact this
    · intro S' σ' H' h1 g1 s1
      have g2 : Good K M (keepPs As S') (vs.map some) H' := g1.sub (fun a ha => (keepPs_sub As S').subset ha) ((keepPs_sub As S').nodup g1.nd) (keepPs_hold (slotsH_map.mp g.sl) g1.sl)
      refine kk _ _ .non H' h1 (g2.fv rfl) (step_flat ((s1.of_owns fun a => by rw [pad_owns]).less fun a ha => (keepPs_sub As S').subset ha))
    · intro t S' v σ' H' h1 g1 s1
      obtain ⟨⟨y, ey, hy⟩, hs⟩ := g1.sl
      cases ey
      have sb : ∀ a ∈ ownsS (some t :: keepPs As S'), a ∈ ownsS (some t :: S') := fun a ha => by
        simp only [ownsS, List.mem_append] at ha ⊢
        exact ha.imp id fun z => (keepPs_sub As S').subset z
      have g2 : Good K M (some t :: keepPs As S') (some v :: vs.map some) H' := g1.sub sb (((keepPs_sub As S').append_left _).nodup g1.nd) ⟨⟨v, rfl, hy⟩, keepPs_hold (slotsH_map.mp g.sl) hs⟩
      exact kk _ _ v H' h1 g2 ((s1.of_owns fun a => by rw [pad_owns]).less sb)
    · intro S' σ' H' h1
      exact h1.elim
    · intro S' σ' H' h1
      exact h1.elim
/-! the call -/
section
variable {K : PySem.W.Frag} {M : Addr → Prop} {S L L' : SS} {σ w w' : St} {H H' : Hp}
theorem bd_append (a : Addr) : Bd M (L ++ S) a ↔ Bd (Bd M S) L a := by
  simp only [Bd, ownsS_append, List.mem_append]
  constructor
  · rintro (h | h | h)
    · exact .inl (.inl h)
    · exact .inr h
    · exact .inl (.inr h)
  · rintro ((h | h) | h)
    · exact .inl h
    · exact .inr (.inr h)
    · exact .inr (.inl h)
theorem Good.cut (g : Good K M (L ++ S) (w ++ σ) H) (e : L.length = w.length) : Good K (Bd M S) L w H := by
  obtain ⟨q1, q2⟩ := (slotsH_append e).mp g.sl
  have nd := g.nd
  rw [ownsS_append] at nd
  obtain ⟨n1, n2, n3⟩ := List.nodup_append.mp nd
  refine ⟨slotsH_frame (same_hide.mpr fun a o hb q => ⟨fun z => hb ((bd_append a).mpr z), q⟩) (fun _ _ => rfl) q1, n1, fun a ha z => ?_, fun a ha => g.tracked a ?_⟩
  · rcases z with z | z
    · exact g.dj a (by rw [ownsS_append]; exact List.mem_append.mpr (.inl ha)) z
    · exact n3 a ha a z rfl
  · exact (bd_append a).mpr (.inl ha)
theorem Good.splice (g : Good K M (L ++ S) (w ++ σ) H) (e : L.length = w.length) (g2 : Good K (Bd M S) L' w' H') (e2 : L'.length = w'.length) (st : Step (Bd M S) L H L' H') :
    Good K M (L' ++ S) (w' ++ σ) H' ∧ Step M (L ++ S) H (L' ++ S) H' := by
  obtain ⟨q1, q2⟩ := (slotsH_append e).mp g.sl
  have nd := g.nd
  rw [ownsS_append] at nd
  obtain ⟨n1, n2, n3⟩ := List.nodup_append.mp nd
  have st' : Step M (L ++ S) H (L' ++ S) H' := ⟨fun a o hb q => by
    obtain ⟨x, y⟩ := st.1 a o (fun z => hb ((bd_append a).mpr z)) q
    exact ⟨fun z => x ((bd_append a).mp z), y⟩, fun a ha => st.2 a (.inl ha)⟩
  refine ⟨⟨(slotsH_append e2).mpr ⟨slotsH_frame (same_hide.mpr fun a o hb q => ⟨fun z => hb ((bd_append a).mp z), q⟩) (fun _ _ => rfl) g2.sl, slotsH_frame st'.same (fun a ha => st.2 a (.inr ha)) q2⟩, ?_, fun a ha => ?_, fun a ha => g2.tk a (.inl ha)⟩, st'⟩
  · rw [ownsS_append]
    exact List.nodup_append.mpr ⟨g2.nd, n2, fun a ha b hb q => g2.dj a ha (.inr (q ▸ hb))⟩
  · rw [ownsS_append] at ha
    rcases List.mem_append.mp ha with h | h
    · exact fun z => g2.dj a h (.inl z)
    · exact g.dj a (by rw [ownsS_append]; exact List.mem_append.mpr (.inr h))
end
def adr : Option (Option T) → Option V
  | some (some (.node _ a _)) => some (.ref a)
  | some (some (.dat .none)) => some .non
  | some (some (.dat (.bool b))) => some (.bl b)
  | some (some (.dat (.int i))) => some (.int i)
  | _ => none
theorem adr_some {x : Option (Option T)} {u : V} (e : adr x = some u) : ∃ t, x = some (some t) ∧ ∀ {K : PySem.W.Frag} {Hd H : Hp} {v : V}, t.holds K Hd H v → v = u := by
  unfold adr at e
  split at e
  · cases e
    refine ⟨_, rfl, fun h => ?_⟩
    simp only [T.holds] at h
    exact h.1
  · cases e
    refine ⟨_, rfl, fun h => ?_⟩
    simp only [T.holds] at h
    cases h
    rfl
  · cases e
    refine ⟨_, rfl, fun h => ?_⟩
    simp only [T.holds] at h
    cases h
    rfl
  · cases e
    refine ⟨_, rfl, fun h => ?_⟩
    simp only [T.holds] at h
    cases h
    rfl
  · cases e
def putBack : List (Nat × Nat) → SS → SS → SS
  | [], _, S => S
  | (i, j) :: r, A, S => putBack r (A.set j none) (S.set i (A[j]?.getD none))
def bkOk : List (Nat × Nat) → SS → SS → Prop
  | [], _, _ => True
  | (i, j) :: r, S0, A => (match adr S0[i]?, adr A[j]? with
    | some a, some b => a = b
    | _, _ => False) ∧ bkOk r S0 (A.set j none)
theorem adr_holds {K : PySem.W.Frag} {Hd H : Hp} {S : SS} {σ : St} {i : Nat} {u : V} (h : slotsH K Hd H S σ) (e : adr S[i]? = some u) : σ[i]? = some (some u) := by
  obtain ⟨t, q, hq⟩ := adr_some e
  obtain ⟨v, ev, hv⟩ := slotsH_get h q
  rw [ev, hq hv]
theorem putBack_good {K : PySem.W.Frag} {M : Addr → Prop} {t : T} {v : V} {σ : St} {H : Hp} {S0 : SS} {Hd0 H0 : Hp} (h0 : slotsH K Hd0 H0 S0 σ) : ∀ {back : List (Nat × Nat)} {A S : SS} {w : St}, A.length = w.length →
    Good K M (some t :: (A ++ S)) (some v :: (w ++ σ)) H → bkOk back S0 A → Good K M (some t :: putBack back A S) (some v :: σ) H ∧ ∀ a ∈ ownsS (some t :: putBack back A S), a ∈ ownsS (some t :: (A ++ S))
  | [], A, S, w, e, g, _ => by
    have sb : ∀ a ∈ ownsS (some t :: S), a ∈ ownsS (some t :: (A ++ S)) := fun a ha => by
      simp only [ownsS, ownsS_append, List.mem_append] at ha ⊢
      exact ha.imp id .inr
    refine ⟨g.sub sb ?_ ⟨g.sl.1, ((slotsH_append e).mp g.sl.2).2⟩, sb⟩
    have nd := g.nd
    simp only [ownsS, ownsS_append] at nd ⊢
    exact ((List.sublist_append_right _ _).append_left _).nodup nd
  | (i, j) :: r, A, S, w, e, g, b => by
    obtain ⟨b1, b2⟩ := b
    split at b1
    · next a b ea eb =>
      subst b1
      have ei := adr_holds h0 ea
      obtain ⟨tj, q, hq⟩ := adr_some eb
      · have hdummy := True.intro
        have hj : j < A.length := (List.getElem?_eq_some_iff.mp q).1
        have q1 : (some t :: (A ++ S))[j + 1]? = some (some tj) := by
          rw [List.getElem?_cons_succ, List.getElem?_append_left hj]
          exact q
        obtain ⟨y, ey, g1⟩ := g.take q1
        have hw : y = a := by
          obtain ⟨⟨z, ez, hz⟩, _⟩ := g1.sl
          cases ez
          exact hq hz
        subst hw
        have q2 : (some v :: (w ++ σ))[A.length + i + 1]? = some (some y) := by
          rw [List.getElem?_cons_succ, e, List.getElem?_append_right (by omega)]
          have : w.length + i - w.length = i := by omega
          rw [this]
          exact ei
        have g2 := g1.back q2
        have el : ((some t :: (A ++ S)).set (j + 1) none).set (A.length + i + 1) (some tj) = some t :: (A.set j none ++ S.set i (some tj)) := by
          rw [List.set_cons_succ, List.set_cons_succ, List.set_append_left _ _ hj, List.set_append_right _ _ (by simp)]
          congr 3
          simp
        rw [el] at g2
        have ih := putBack_good h0 (back := r) (A := A.set j none) (S := S.set i (some tj)) (w := w) (by simpa using e) g2 b2
        have eg : (A[j]?).getD none = some tj := by rw [q]; rfl
        refine ⟨?_, fun c hc => ?_⟩
        · show Good K M (some t :: putBack r (A.set j none) (S.set i (A[j]?.getD none))) _ _
          rw [eg]
          exact ih.1
        · have hc' : c ∈ ownsS (some t :: putBack r (A.set j none) (S.set i (some tj))) := by rw [← eg]; exact hc
          have h1 := ih.2 c hc'
          rw [← el] at h1
          have hlt : A.length + i + 1 < ((some t :: (A ++ S)).set (j + 1) none).length := by
            have h3 := slotsH_len g.sl
            have h4 := (List.getElem?_eq_some_iff.mp q2).1
            simp only [List.length_cons, List.length_append, List.length_set] at h3 h4 ⊢
            omega
          have h2 := (ownsS_some_perm tj _ _ hlt).subset h1
          rcases List.mem_append.mp h2 with h2 | h2
          · exact (ownsS_get_perm q1).symm.subset (List.mem_append.mpr (.inl h2))
          · exact (ownsS_none_sub _ _).subset ((ownsS_none_sub _ _).subset h2)
    · exact b1.elim
def dCall (n : Nat) (f : FSp) (dv : List PyData) (back : List (Nat × Nat)) (ta : TAD) : TD := fun S Q => ta S fun As S1 => As.length + dv.length = n ∧ f (As ++ dv.map T.dat) fun t A' => bkOk back S A' ∧ Q t (putBack back A' S1)
theorem good_dats {K : PySem.W.Frag} {M : Addr → Prop} {H : Hp} : ∀ {dv : List PyData} {dvs : List V} {S : SS} {σ : St}, dv.map fv = dvs.map some → Good K M S σ H → Good K M ((dv.map T.dat).map some ++ S) (dvs.map some ++ σ) H
  | [], [], S, σ, _, g => g
  | d :: dv, v :: dvs, S, σ, e, g => by
    simp only [List.map_cons, List.cons.injEq] at e
    exact (good_dats e.2 g).fv e.1
  | [], _ :: _, _, _, e, _ => by simp at e
  | _ :: _, [], _, _, e, _ => by simp at e
theorem ownsS_dats : ∀ dv : List PyData, ownsS ((dv.map T.dat).map some) = []
  | [] => rfl
  | d :: dv => by simp only [List.map_cons, ownsS, T.owns, List.nil_append, ownsS_dats dv]
theorem good_dats_r {K : PySem.W.Frag} {M : Addr → Prop} {H : Hp} {dv : List PyData} {dvs : List V} {S : SS} {σ : St} (e : dv.map fv = dvs.map some) (g : Good K M S σ H) : Good K M (S ++ (dv.map T.dat).map some) (σ ++ dvs.map some) H := by
  have ho : ownsS (S ++ (dv.map T.dat).map some) = ownsS S := by rw [ownsS_append, ownsS_dats, List.append_nil]
  refine g.sub (fun a ha => by rw [ho] at ha; exact ha) (by rw [ho]; exact g.nd) ((slotsH_append (slotsH_len g.sl)).mpr ⟨g.sl, ?_⟩)
  have hh : ∀ {dv : List PyData} {dvs : List V}, dv.map fv = dvs.map some → slotsH K (hidS M S H) H ((dv.map T.dat).map some) (dvs.map some) := by
    intro dv
    induction dv with
    | nil =>
      intro dvs e
      cases dvs with
      | nil => trivial
      | cons _ _ => simp at e
    | cons d dv ih =>
      intro dvs e
      cases dvs with
      | nil => simp at e
      | cons v dvs =>
        simp only [List.map_cons, List.cons.injEq] at e
        exact ⟨⟨v, rfl, by simp only [T.holds]; exact dp_fv e.1⟩, ih e.2⟩
  exact hh e
section
variable {X : Cx} {k n : Nat} {f : Addr} {fd : FuncData} {ps : List Str} {sp : FSp} {dv : List PyData} {dvs : List V} {ds : List Value} {back : List (Nat × Nat)} {x : Str} {p pos : Pos} {e : Expr} {es : List Expr} {ta : TAD}
theorem up_call {E : XK} (hdv : dv.map fv = dvs.map some) : ∀ σ H Q, up X.K (dCall n sp dv back ta) σ H Q → tCall (spD X.K n sp) dvs E (upA X.K ta) σ H Q := by
  rintro σ H Q ⟨M, S, Qd, g, q, kk⟩
  refine ⟨M, S, _, g, q, fun As S1 vs H1 h1 hl g1 s1 => ?_⟩
  obtain ⟨hlen, h1⟩ := h1
  have el : (As.map some).length = (vs.map some).length := by simp [hl]
  have gc := good_dats_r hdv (g1.cut el)
  have e1 : As.map some ++ (dv.map T.dat).map some = (As ++ dv.map T.dat).map some := by rw [List.map_append]
  have e2 : vs.map some ++ dvs.map some = (vs ++ dvs).map some := by rw [List.map_append]
  rw [e1, e2] at gc
  refine ⟨Bd M S1, As ++ dv.map T.dat, _, by simp [hlen], gc, h1, fun t A' v H' h2 g2 s2 => ?_⟩
  obtain ⟨b, h2⟩ := h2
  have so : ∀ a, a ∈ ownsS (As.map some) ↔ a ∈ ownsS ((As ++ dv.map T.dat).map some) := fun a => by rw [List.map_append, ownsS_append, ownsS_dats, List.append_nil]
  have lA : (some t :: A').length = (some v :: (vs ++ dvs).map some).length := slotsH_len g2.sl
  obtain ⟨g3, s3⟩ := g1.splice el g2 lA (s2.of_owns so)
  obtain ⟨g4, sb⟩ := putBack_good (w := (vs ++ dvs).map some) g.sl (by simpa using lA) g3 b
  exact kk t _ v H' h2 g4 ((s1.trans s3).less sb)
theorem pd_call (F : FnOk X.prog X.w X.K X.mg X.base CX0 k f fd ps (spD X.K ps.length sp)) (hr : Room k X.A) (hg : Gl X x) (hm : X.mg x = some (.ref f)) (hk : PySem.W.keepIn X.K (.ref f) = true) (hb : Binds X.K fd ps ds) (hd : Vals dvs ds) (hdv : dv.map fv = dvs.map some)
    (back : List (Nat × Nat)) (ha : PAD X (e :: es) ta) (hdb : (x == ("__debug__" : Str)) = false := by decide) (he : starEach (e :: es) X.env = (false, eval e X.env) :: starEach es X.env := by rfl)
    (hpl : (backTo pos (starEach es X.env)).any (·.1) = false := by rfl) : PD X (.Call (.Name x p) (e :: es) [] pos) (dCall ps.length sp dv back ta) :=
  PE_imp (pe_call F hr hg hm hk hb hd pass0 ha (hdb := hdb) (he := he) (hpl := hpl)) (up_call hdv)
end
end DL
namespace DL
open PySem L2

/-! ### 18. Comprehensions -/
def wipeD (S : SS) : List Nat → SS
  | [] => S
  | v :: vs => (wipeD S vs).set v none
/-- plain data of the wiped slots comes back -/
def redat (S0 : SS) : List Nat → SS → SS
  | [], S => S
  | v :: vs, S => match S0[v]? with
    | some (some (.dat d)) => (redat S0 vs S).set v (some (.dat d))
    | _ => redat S0 vs S
section
variable {K : PySem.W.Frag} {M : Addr → Prop} {S : SS} {σ : St} {H Hd : Hp}
theorem wipeD_slots : ∀ {vs : List Nat}, slotsH K Hd H S σ → slotsH K Hd H (wipeD S vs) (wipe σ vs)
  | [], h => h
  | v :: vs, h => slotsH_none (wipeD_slots (vs := vs) h)
theorem wipeD_owns : ∀ vs : List Nat, (ownsS (wipeD S vs)).Sublist (ownsS S)
  | [] => List.Sublist.refl _
  | v :: vs => (ownsS_none_sub _ v).trans (wipeD_owns vs)
theorem Good.wipe (g : Good K M S σ H) (vs : List Nat) : Good K M (wipeD S vs) (wipe σ vs) H :=
  g.sub (fun a ha => (wipeD_owns vs).subset ha) ((wipeD_owns vs).nodup g.nd) (wipeD_slots g.sl)
theorem wipeD_len : ∀ vs : List Nat, (wipeD S vs).length = S.length
  | [] => rfl
  | v :: vs => by simp [wipeD, wipeD_len vs]
/-- a slot of which nothing is known may hold anything -/
theorem slotsH_any {S : SS} {σ : St} {i : Nat} {w : Option V} (h : slotsH K Hd H (S.set i none) σ) : slotsH K Hd H (S.set i none) (σ.set i w) := by
  have := slotsH_none (i := i) (w := w) h
  rwa [List.set_set] at this
/-- the wiped slots' values may come back -/
theorem unwipe_slots : ∀ {vs : List Nat} {S : SS} {σ : St}, slotsH K Hd H (wipeD S vs) (L2.wipe σ vs) → slotsH K Hd H (wipeD S vs) σ
  | [], S, σ, h => h
  | v :: vs, S, σ, h => by
    -- values: wipe σ (v :: vs) = (wipe σ vs).set v none
    have key : ∀ (vs : List Nat) (U : SS) (τ : St), (∀ i ∈ vs, U[i]? = some none ∨ U[i]? = none) → slotsH K Hd H U (L2.wipe τ vs) → slotsH K Hd H U τ := by
      intro vs
      induction vs with
      | nil => exact fun U τ _ h => h
      | cons v vs ih =>
        intro U τ hn h
        have h1 : slotsH K Hd H U ((L2.wipe τ vs).set v none) := h
        refine ih U τ (fun i hi => hn i (List.mem_cons_of_mem _ hi)) ?_
        have hU : U.set v none = U := by
          rcases hn v (List.mem_cons_self ..) with q | q
          · apply List.ext_getElem?
            intro j
            by_cases e : v = j
            · subst e
              rw [List.getElem?_set_self (List.getElem?_eq_some_iff.mp q).1, q]
            · rw [List.getElem?_set_ne e]
          · exact List.set_eq_of_length_le (List.getElem?_eq_none_iff.mp q)
        have h2 : slotsH K Hd H (U.set v none) ((L2.wipe τ vs).set v none) := by rw [hU]; exact h1
        have h3 := slotsH_any (w := ((L2.wipe τ vs)[v]?).getD none) h2
        rw [hU, List.set_set] at h3
        have e : (L2.wipe τ vs).set v (((L2.wipe τ vs)[v]?).getD none) = L2.wipe τ vs := by
          apply List.ext_getElem?
          intro j
          by_cases e : v = j
          · subst e
            by_cases hl : v < (L2.wipe τ vs).length
            · rw [List.getElem?_set_self hl, List.getElem?_eq_getElem hl]
              rfl
            · rw [List.set_eq_of_length_le (by omega)]
          · rw [List.getElem?_set_ne e]
        rw [e] at h3
        exact h3
    refine key (v :: vs) _ σ (fun i hi => ?_) h
    clear h key
    have : ∀ (us : List Nat), i ∈ us → (wipeD S us)[i]? = some none ∨ (wipeD S us)[i]? = none := by
      intro us
      induction us with
      | nil => exact fun z => absurd z (by simp)
      | cons u us ih =>
        intro hi
        show ((wipeD S us).set u none)[i]? = some none ∨ ((wipeD S us).set u none)[i]? = none
        by_cases e : u = i
        · subst e
          by_cases hl : u < (wipeD S us).length
          · exact .inl (by rw [List.getElem?_set_self hl])
          · exact .inr (List.getElem?_eq_none_iff.mpr (by simp only [List.length_set]; omega))
        · rcases List.mem_cons.mp hi with q | q
          · exact absurd q.symm e
          · rw [List.getElem?_set_ne e]
            exact ih q
    exact this (v :: vs) hi
theorem redat_owns {S0 : SS} : ∀ {vs : List Nat} {S : SS}, ∀ a ∈ ownsS (redat S0 vs S), a ∈ ownsS S
  | [], S, a, h => h
  | v :: vs, S, a, h => by
    unfold redat at h
    split at h
    · next d q =>
      by_cases hv : v < (redat S0 vs S).length
      · have := (ownsS_some_perm (.dat d) _ v hv).subset h
        simp only [T.owns, List.nil_append] at this
        exact redat_owns (vs := vs) a ((ownsS_none_sub _ _).subset this)
      · rw [List.set_eq_of_length_le (by omega)] at h
        exact redat_owns (vs := vs) a h
    · exact redat_owns (vs := vs) a h
theorem redat_nd {S0 : SS} : ∀ {vs : List Nat} {S : SS}, (ownsS S).Nodup → (ownsS (redat S0 vs S)).Nodup
  | [], S, h => h
  | v :: vs, S, h => by
    have ih := redat_nd (S0 := S0) (vs := vs) h
    unfold redat
    split
    · next d q =>
      by_cases hv : v < (redat S0 vs S).length
      · refine (ownsS_some_perm (.dat d) _ v hv).nodup_iff.mpr ?_
        simp only [T.owns, List.nil_append]
        exact (ownsS_none_sub _ _).nodup ih
      · rw [List.set_eq_of_length_le (by omega)]
        exact ih
    · exact ih
theorem redat_slots {S0 : SS} {Hd0 H0 : Hp} (e : Same Hd0 Hd) (h0 : slotsH K Hd0 H0 S0 σ) : ∀ {vs : List Nat} {S : SS}, slotsH K Hd H S σ → slotsH K Hd H (redat S0 vs S) σ
  | [], S, h => h
  | v :: vs, S, h => by
    have ih := redat_slots e h0 (vs := vs) h
    unfold redat
    split
    · next d q =>
      obtain ⟨x, ex, hx⟩ := slotsH_get h0 q
      refine slotsH_set' ?_ ex ih
      simp only [T.holds] at hx ⊢
      exact dp_mono e _ _ hx
    · exact ih
end
/-- a target that stores into the slots vs alone: g its reading over the heap, td over trees -/
def LinkG (K : PySem.W.Frag) (vs : List Nat) (g : TG) (td : TGD) : Prop := ∀ (M : Addr → Prop) (t : T) (S : SS) (Qd : SS → Prop) (v : V) (τ : St) (H : Hp) (R : St → Hp → Prop), Good K M (some t :: S) (some v :: τ) H → td t S Qd →
  (∀ S' σ' H', L2.wipe σ' vs = L2.wipe τ vs → Qd S' → Good K M S' σ' H' → Step M (some t :: S) H S' H' → R σ' H') → g v τ H R
def LinkGs (K : PySem.W.Frag) (vs : List Nat) (g : TGs) (td : TGsD) : Prop := ∀ (M : Addr → Prop) (ds : List PyData) (S : SS) (Qd : SS → Prop) (us : List V) (τ : St) (H : Hp) (R : St → Hp → Prop), Good K M S τ H → DpAll K (hidS M S H) us ds → td ds S Qd →
  (∀ S' σ' H', L2.wipe σ' vs = L2.wipe τ vs → Qd S' → Good K M S' σ' H' → Step M S H S' H' → R σ' H') → g us τ H R
theorem wipe_set {σ : St} {w : Option V} {i : Nat} : ∀ {vs : List Nat}, i ∈ vs → L2.wipe (σ.set i w) vs = L2.wipe σ vs
  | [], h => absurd h (by simp)
  | v :: vs, h => by
    show (L2.wipe (σ.set i w) vs).set v none = (L2.wipe σ vs).set v none
    have aux : ∀ vs : List Nat, (L2.wipe (σ.set i w) vs).set i none = (L2.wipe σ vs).set i none := by
      intro vs
      induction vs with
      | nil => simp [L2.wipe]
      | cons u us ih =>
        show ((L2.wipe (σ.set i w) us).set u none).set i none = ((L2.wipe σ us).set u none).set i none
        by_cases e : u = i
        · subst e
          rw [List.set_set, List.set_set, ih]
        · rw [List.set_comm _ _ e, ih, List.set_comm _ _ (Ne.symm e)]
    by_cases e : i = v
    · subst e
      exact aux vs
    · rw [wipe_set (vs := vs) ((List.mem_cons.mp h).resolve_left e)]
theorem wipe_idem {σ : St} : ∀ vs : List Nat, L2.wipe (L2.wipe σ vs) vs = L2.wipe σ vs
  | [] => rfl
  | v :: vs => by
    show (L2.wipe ((L2.wipe σ vs).set v none) vs).set v none = (L2.wipe σ vs).set v none
    have : (L2.wipe ((L2.wipe σ vs).set v none) vs).set v none = (L2.wipe (L2.wipe σ vs) vs).set v none := wipe_set (vs := v :: vs) (List.mem_cons_self ..)
    rw [this, wipe_idem vs]
section
variable {K : PySem.W.Frag} {vs : List Nat}
theorem link_name {i : Nat} (hi : i ∈ vs) : LinkG K vs (gName i) (dgName i) := by
  rintro M t S Qd v τ H R g ⟨hl, q⟩ k
  exact k _ _ H (wipe_set hi) q (g.put i hl) (Step.refl.less (put_sub hl))
theorem links_nil : LinkGs K vs gNil dgNil := by
  rintro M ds S Qd us τ H R g h ⟨rfl, q⟩ k
  cases h
  exact ⟨rfl, k S τ H rfl q g .refl⟩
theorem links_cons {g : TG} {td : TGD} {gs : TGs} {tds : TGsD} (h1 : LinkG K vs g td) (h2 : LinkGs K vs gs tds) : LinkGs K vs (gCons g gs) (dgCons td tds) := by
  rintro M ds S Qd us τ H R g0 h q k
  cases h with
  | nil => exact q.elim
  | @cons v us d ds hd ha =>
    refine ⟨v, us, rfl, h1 M (.dat d) S _ v τ H _ (g0.flat hd) q fun S' σ' H' e1 q' g' s' => ?_⟩
    have s0 := (step_flat (.refl : Step M S H S H)).trans s'
    exact h2 M ds S' _ us σ' H' R g' (dpAll_mono s0.same _ _ ha) q' fun S2 σ2 H2 e2 q2 g2 s2 => k S2 σ2 H2 (e2.trans e1) q2 g2 (s0.trans s2)
theorem link_tup {n : Nat} {gs : TGs} {tds : TGsD} (h : LinkGs K vs gs tds) : LinkG K vs (gTup K n gs) (dgTup n tds) := by
  rintro M t S Qd v τ H R g q k
  unfold dgTup at q
  split at q
  · next ds =>
    obtain ⟨hl, q⟩ := q
    have hd := g.dat
    cases hd with
    | tup hq ha => exact ⟨_, _, rfl, sqt_mono (fun a o e => (hide_some.mp e).2) hq, by rw [dpAll_len ha]; exact hl, h M ds S Qd _ τ H R g.drop ha q fun S2 σ2 H2 e2 q2 g2 s2 => k S2 σ2 H2 e2 q2 g2 ((Step.refl.less drop_sub).trans s2)⟩
  · exact q.elim
end
/-- the turns of a comprehension: what is left to walk, what was made, and what is wanted at the end -/
def dLcL (g : TGD) (tt : TTD) (te : TD) (vs : List Nat) : List PyData → List T → SS → (List T → SS → Prop) → Prop
  | [], acc, S, R => R acc S
  | d :: ds, acc, S, R => g (.dat d) S fun S1 => tt S1 fun b S2 => if b = true then te S2 fun y S3 => acc.length < sizeLine ∧ dLcL g tt te vs ds (acc ++ [y]) (wipeD S3 vs) R else dLcL g tt te vs ds acc (wipeD S2 vs) R
def dLc (wd : TID) (g : TGD) (tt : TTD) (te : TD) (vs : List Nat) : TD := fun S Q => wd S fun ds S1 => dLcL g tt te vs ds [] (wipeD S1 vs) fun acc S2 => ∀ D, Q (.node .lst D acc) (redat S1 vs (wipeD S2 vs))
def dYes : TTD := fun S Q => Q true S
theorem up_yes {K : PySem.W.Frag} : ∀ σ H Q, upT K dYes σ H Q → tYes σ H Q := fun σ H Q ⟨M, S, Qd, g, q, k⟩ => k true S H q g .refl
theorem up_lc {K : PySem.W.Frag} {wd : TID} {g : TG} {td : TGD} {tt : TTD} {te : TD} {vs : List Nat} (hl : LinkG K vs g td) : ∀ σ H Q, up K (dLc wd td tt te vs) σ H Q → tLc (upI K wd) g (upT K tt) (up K te) vs σ H Q := by
  rintro σ H Q ⟨M, S, Qd, g0, q, kk⟩
  refine ⟨M, S, _, g0, q, fun ds S1 J H1 q1 g1 s1 wk D hD => ?_⟩
  have gw := g1.wipe vs
  obtain ⟨gD, sD⟩ := gw.wrap (ts := []) (vs := []) (p := D) (sh := .lst) rfl hD rfl
  have sw : Step M S1 H1 (some (.node .lst D []) :: wipeD S1 vs) (upd H1 D (.lst [])) := (Step.refl.less fun a ha => (wipeD_owns vs).subset ha).trans sD
  refine ⟨fun i m H' => m = ds.length - i ∧ i ≤ ds.length ∧ ∃ acc S', dLcL td tt te vs (ds.drop i) acc S' (fun acc S2 => ∀ D, Qd (.node .lst D acc) (redat S1 vs (wipeD S2 vs))) ∧ Good K M (some (.node .lst D acc) :: S') (some (.ref D) :: L2.wipe σ vs) H' ∧
    Step M S1 H1 (some (.node .lst D acc) :: S') H', ⟨_, rfl, Nat.zero_le _, [], _, q1, gD, sw⟩, ?_⟩
  rintro i m H2 ⟨rfl, hi, acc, S2, q2, g2, s2⟩
  have w := wk i H2 _ s2.same g2.tracked
  by_cases hlt : i < ds.length
  · refine .inr ?_
    obtain ⟨d, hd⟩ : ∃ d, ds[i]? = some d := ⟨_, List.getElem?_eq_getElem hlt⟩
    obtain ⟨w1, w2⟩ := w.1 d hd
    have ed : ds.drop i = d :: ds.drop (i + 1) := by
      rw [List.drop_eq_getElem_cons hlt]
      congr 1
      exact Option.some.inj ((List.getElem?_eq_getElem hlt).symm.trans hd)
    rw [ed] at q2
    refine ⟨w1, fun H' => ∃ acc S', dLcL td tt te vs (ds.drop (i + 1)) acc S' (fun acc S2 => ∀ D, Qd (.node .lst D acc) (redat S1 vs (wipeD S2 vs))) ∧ Good K M (some (.node .lst D acc) :: S') (some (.ref D) :: L2.wipe σ vs) H' ∧
      Step M S1 H1 (some (.node .lst D acc) :: S') H', fun H' h => ⟨_, by omega, rfl, hlt, h⟩, fun x H' hy => ?_⟩
    obtain ⟨ex, dx⟩ := w2 x H' hy
    obtain ⟨g3, s3⟩ := g2.ext ex
    -- the item stands beside the list that is made
    have ga := g3.apart
    have dx' : Dp K (hidS (fun a => M a ∨ a ∈ (T.node .lst D acc).owns) S2 H') x d := dp_mono (same_hide.mpr fun a o hb q => ⟨fun z => hb (by
      simp only [Bd, ownsS, List.mem_append] at z ⊢
      rcases z with (z | z) | z
      · exact .inl z
      · exact .inr (.inl z)
      · exact .inr (.inr z)), q⟩) _ _ dx
    refine hl _ (.dat d) S2 _ x _ H' _ (ga.flat dx') q2 fun S5 σ5 H5 e5 q5 g5 s5 => ?_
    have s5' := (step_flat (.refl : Step _ S2 H' S2 H')).trans s5
    rw [wipe_idem] at e5
    refine ⟨e5, _, S5, _, g5, q5, fun b S6 H6 q6 g6 s6 => ?_⟩
    have s56 := s5'.trans s6
    have back : ∀ {U : SS} {τ : St} {H9 : Hp}, L2.wipe τ vs = L2.wipe σ vs → Good K M U τ H9 → Good K M (wipeD U vs) (L2.wipe σ vs) H9 := fun e g => by
      have := g.wipe vs
      rw [e] at this
      exact this
    cases b with
    | false =>
      rw [if_neg Bool.false_ne_true] at q6
      refine iteF ⟨acc, _, q6, ?_⟩
      obtain ⟨j1, j2⟩ := g3.join g6 s56
      have gj := j1.wipe (vs.map (· + 1))
      have e1 : ∀ (vs : List Nat) (t : Option T) (U : SS), wipeD (t :: U) (vs.map (· + 1)) = t :: wipeD U vs := by
        intro vs t U
        induction vs with
        | nil => rfl
        | cons v vs ih => simp only [List.map_cons, wipeD, ih, List.set_cons_succ]
      have e2 : ∀ (vs : List Nat) (t : Option V) (U : St), L2.wipe (t :: U) (vs.map (· + 1)) = t :: L2.wipe U vs := by
        intro vs t U
        induction vs with
        | nil => rfl
        | cons v vs ih => simp only [List.map_cons, L2.wipe, ih, List.set_cons_succ]
      rw [e1, e2, e5] at gj
      exact ⟨gj, ((s2.trans s3).trans j2).less fun a ha => by
        simp only [ownsS, List.mem_append] at ha ⊢
        exact ha.imp id fun z => (wipeD_owns vs).subset z⟩
    | true =>
      rw [if_pos rfl] at q6
      refine iteT ⟨_, S6, _, g6, q6, fun y S7 v7 H7 q7 g7 s7 => ?_⟩
      obtain ⟨hlen, q7⟩ := q7
      obtain ⟨j1, j2⟩ := g3.join g7 (s56.trans s7)
      have g8 := j1.swap
      obtain ⟨us, e9, ho, hul, g9, s9⟩ := g8.store (i := 0) (sh := .lst) (a := D) (ts := acc) (ts' := acc ++ [y]) rfl (fun us => us ++ [v7]) (fun Hd H' vs hx hl => holdsL_snoc hx hl) ownsL_snoc_nd ownsL_snoc_sub
      refine ⟨us, ho, by rw [hul]; exact hlen, acc ++ [y], _, q7, ?_⟩
      have g9' : Good K M (some (.node .lst D (acc ++ [y])) :: S7) (some (.ref D) :: σ5) (upd H7 D (.lst (us ++ [v7]))) := g9
      have gj := g9'.wipe (vs.map (· + 1))
      have e1 : ∀ (vs : List Nat) (t : Option T) (U : SS), wipeD (t :: U) (vs.map (· + 1)) = t :: wipeD U vs := by
        intro vs t U
        induction vs with
        | nil => rfl
        | cons v vs ih => simp only [List.map_cons, wipeD, ih, List.set_cons_succ]
      have e2 : ∀ (vs : List Nat) (t : Option V) (U : St), L2.wipe (t :: U) (vs.map (· + 1)) = t :: L2.wipe U vs := by
        intro vs t U
        induction vs with
        | nil => rfl
        | cons v vs ih => simp only [List.map_cons, L2.wipe, ih, List.set_cons_succ]
      rw [e1, e2, e5] at gj
      refine ⟨gj, ?_⟩
      have st : Step M S1 H1 (some (.node .lst D (acc ++ [y])) :: S7) (upd H7 D (.lst (us ++ [v7]))) := ((s2.trans s3).trans j2).trans ((Step.refl.less swap_sub).trans s9)
      exact st.less fun a ha => by
        simp only [ownsS, List.mem_append] at ha ⊢
        exact ha.imp id fun z => (wipeD_owns vs).subset z
  · have hn : ds.length ≤ i := by omega
    rw [List.drop_eq_nil_of_le hn] at q2
    refine .inl ⟨w.2 hn, ?_⟩
    have q3 := q2 D
    obtain ⟨⟨y, ey, hy⟩, hs⟩ := g2.sl
    cases ey
    have sb : ∀ a ∈ ownsS (some (T.node .lst D acc) :: redat S1 vs (wipeD S2 vs)), a ∈ ownsS (some (T.node .lst D acc) :: S2) := fun a ha => by
      simp only [ownsS, List.mem_append] at ha ⊢
      exact ha.imp id fun z => (wipeD_owns vs).subset (redat_owns a z)
    have hs2 : slotsH K (hidS M (some (.node .lst D acc) :: S2) H2) H2 (wipeD S2 vs) σ := unwipe_slots (by
      have := wipeD_slots (vs := vs) hs
      rw [wipe_idem] at this
      exact this)
    refine kk _ _ _ H2 q3 (g2.sub sb ?_ ⟨⟨_, rfl, hy⟩, redat_slots s2.same g1.sl hs2⟩) ((s1.trans s2).less sb)
    have nd := g2.nd
    simp only [ownsS] at nd ⊢
    obtain ⟨n1, n2, n3⟩ := List.nodup_append.mp nd
    exact List.nodup_append.mpr ⟨n1, redat_nd ((wipeD_owns vs).nodup n2), fun a ha b hb q => n3 a ha b ((wipeD_owns vs).subset (redat_owns b hb)) q⟩
section
variable {X : Cx} {elt tg iter : Expr} {ifs : List Expr} {scope : Scope} {own : List (Str × Nat)} {pos spos : Pos} {wd : TID} {g : TG} {td : TGD} {tt : TTD} {te : TD}
theorem ptsd_nil : PTs X [] (upT X.K dYes) := by
  have h : PTs X [] tYes := pts_nil
  exact ⟨fun pins s σ H Q I w => h.run pins s σ H Q I (up_yes _ _ _ w)⟩
theorem ptsd_one {c : Expr} {t : TTD} (h : PTD X c t) : PTs X [c] (upT X.K t) := pts_one h
theorem pd_lc (hc : X.calm = true) (hN : X.N.Nodup) (hi : PID X tg iter wd) (ok : BlkOk X.N X.env.scope scope own)
    (hg : ∀ (s : Shared) (H : Hp) (C : Addr) (cl : List (Str × Addr)) (fp : List Addr), PG (X.blk s H scope (compEnvC scope cl C X.env) fp) tg g) (hl : LinkG X.K (own.map (·.2)) g td)
    (ht : ∀ (s : Shared) (H : Hp) (C : Addr) (cl : List (Str × Addr)) (fp : List Addr), PTs (X.blk s H scope (compEnvC scope cl C X.env) fp) ifs (upT X.K tt))
    (he : ∀ (s : Shared) (H : Hp) (C : Addr) (cl : List (Str × Addr)) (fp : List Addr), PE (X.blk s H scope (compEnvC scope cl C X.env) fp) elt (up X.K te)) (hs : ∀ x, foldedSetIterable iter X.env x = pure x := by intro _; rfl) :
    PD X (.ListComp elt [⟨tg, iter, ifs, 0⟩] scope pos) (dLc wd td tt te (own.map (·.2))) := PE_imp (pe_lc hc hN hi ok hg ht he hs) (up_lc hl)
/-- y = [..] -/
theorem psd_setLc {i : Nat} {y : Str} {py : Pos} (hc : X.calm = true) (hN : X.N.Nodup) (hy : X.N[i]? = some y) (hyl : X.env.scope.names.lookup y = some .local)
    (hsw : swapsWith (.ListComp elt [⟨tg, iter, ifs, 0⟩] scope pos) (some (.Name y py)) spos.line X.env = pure true) (hi : PID X tg iter wd) (ok : BlkOk X.N X.env.scope scope own)
    (hg : ∀ (s : Shared) (H : Hp) (C : Addr) (cl : List (Str × Addr)) (fp : List Addr), PG (X.blk s H scope (compEnvC scope cl C X.env) fp) tg g) (hl : LinkG X.K (own.map (·.2)) g td)
    (ht : ∀ (s : Shared) (H : Hp) (C : Addr) (cl : List (Str × Addr)) (fp : List Addr), PTs (X.blk s H scope (compEnvC scope cl C X.env) fp) ifs (upT X.K tt))
    (he : ∀ (s : Shared) (H : Hp) (C : Addr) (cl : List (Str × Addr)) (fp : List Addr), PE (X.blk s H scope (compEnvC scope cl C X.env) fp) elt (up X.K te)) (hs : ∀ x, foldedSetIterable iter X.env x = pure x := by intro _; rfl) :
    PSD X (.Assign [.Name y py] (.ListComp elt [⟨tg, iter, ifs, 0⟩] scope pos) spos) (dSet i (dLc wd td tt te (own.map (·.2)))) := by
  refine PS_imp (ps_setLc hc hN hy hyl hsw hi ok hg ht he hs) ?_
  rintro D σ H ⟨M, S, Dd, g, q, kn, kr, kb, kc⟩
  refine up_lc hl σ H _ ⟨M, S, _, g, q, fun x S1 v H1 h1 g1 s1 => ?_⟩
  obtain ⟨hi, h1⟩ := h1
  exact kn _ _ H1 h1 (g1.put i hi) (s1.less (put_sub hi))
end
end DL
namespace DL
open PySem L2

/-! ### 19. More words -/
section
variable {X : Cx} {a b : Expr} {rest : List Expr} {ta tb : TD} {pos : Pos} {tA : TAD}
theorem pd_gc {x : Str} {v : V} {d : PyData} {p : Pos} (hg : Gl X x) (h : ∃ u, X.mg x = some u ∧ RelV v u) (hf : fv d = some v) (hd : (x == ("__debug__" : Str)) = false := by decide) : PD X (.Name x p) (dC d) := by
  obtain ⟨u, h1, h2⟩ := h
  exact pd_glob hg h1 h2 hf hd
/-- x or y by truth -/
def dOrT (ta tb : TD) : TD := fun S Q => ta S fun x S1 => x.pln = true ∧ (∀ y, x.frz = .str y → y.length ≤ sizeLine) ∧ if truD x.frz = true then Q x S1 else tb S1 Q
def dAndT (ta tb : TD) : TD := fun S Q => ta S fun x S1 => x.pln = true ∧ (∀ y, x.frz = .str y → y.length ≤ sizeLine) ∧ if truD x.frz = true then tb S1 Q else Q x S1
theorem pd_orT (ha : PD X a ta) (hb : PD X (.BoolOp .Or (b :: rest) pos) tb) : PD X (.BoolOp .Or (a :: b :: rest) pos) (dOrT ta tb) := by
  refine PE_imp (pe_orT ha hb) ?_
  rintro σ H Q ⟨M, S, Qd, g, q, k⟩
  refine ⟨M, S, _, g, q, fun x S1 v H1 h1 g1 s1 => ?_⟩
  obtain ⟨p, hs, h1⟩ := h1
  refine ⟨_, truV_of (g1.dp p) hs, ?_⟩
  cases e : truD x.frz with
  | true => rw [e, if_pos rfl] at h1; exact iteT (k _ S1 _ H1 h1 g1 s1)
  | false =>
    rw [e, if_neg Bool.false_ne_true] at h1
    exact iteF ⟨M, S1, _, g1.drop, h1, fun c S2 v2 H2 h2 g2 s2 => k c S2 v2 H2 h2 g2 ((s1.less drop_sub).trans s2)⟩
theorem pd_andT (ha : PD X a ta) (hb : PD X (.BoolOp .And (b :: rest) pos) tb) : PD X (.BoolOp .And (a :: b :: rest) pos) (dAndT ta tb) := by
  refine PE_imp (pe_andT ha hb) ?_
  rintro σ H Q ⟨M, S, Qd, g, q, k⟩
  refine ⟨M, S, _, g, q, fun x S1 v H1 h1 g1 s1 => ?_⟩
  obtain ⟨p, hs, h1⟩ := h1
  refine ⟨_, truV_of (g1.dp p) hs, ?_⟩
  cases e : truD x.frz with
  | false => rw [e, if_neg Bool.false_ne_true] at h1; exact iteF (k _ S1 _ H1 h1 g1 s1)
  | true =>
    rw [e, if_pos rfl] at h1
    exact iteT ⟨M, S1, _, g1.drop, h1, fun c S2 v2 H2 h2 g2 s2 => k c S2 v2 H2 h2 g2 ((s1.less drop_sub).trans s2)⟩
/-- a, b = x, y with plain local names -/
def dPar (i j : Nat) (ta : TAD) : TSD := fun D S => ta S fun ts S1 => match ts with
  | [x, y] => i < S1.length ∧ j < S1.length ∧ D.nx ((S1.set i (some x)).set j (some y))
  | _ => False
theorem psd_par {i j : Nat} {x y : Str} {px py pt : Pos} {kt k2 pt2} (hc : X.calm = true) (hN : X.N.Nodup) (hij : i ≠ j)
    (hx : X.env.scope.names.lookup x = some .local) (hy : X.env.scope.names.lookup y = some .local) (ha : PAD X [a, b] tA) (hw : swappedStores [.Tuple [.Name x px, .Name y py] kt pt] (.Tuple [a, b] k2 pt2) X.env = pure (some [x, y])) (hi : X.N[i]? = some x := by rfl) (hj : X.N[j]? = some y := by rfl)
    (hs : swapsWithSole [.Tuple [.Name x px, .Name y py] kt pt] (.Tuple [a, b] k2 pt2) pos.line X.env = pure false := by rfl) :
    PSD X (.Assign [.Tuple [.Name x px, .Name y py] kt pt] (.Tuple [a, b] k2 pt2) pos) (dPar i j tA) := by
  refine PS_imp (ps_par hc hN hi hj hij hx hy ha hw hs) ?_
  rintro D σ H ⟨M, S, Dd, g, q, kn, kr, kb, kc⟩
  refine ⟨M, S, _, g, q, fun ts S1 vs H1 h1 hl g1 s1 => ?_⟩
  match ts, vs, hl, h1, g1, s1 with
  | [t, u], [v, w], _, h1, g1, s1 =>
    obtain ⟨l1, l2, h1⟩ := h1
    have g2 : Good X.K M (some t :: some u :: S1) (some v :: some w :: σ) H1 := g1
    have g3 := g2.swap.put (j + 1) (by simpa using l2)
    have g4 : Good X.K M (some t :: S1.set j (some u)) (some v :: σ.set j (some w)) H1 := g3
    have g5 := g4.put i (by simpa using l1)
    rw [List.set_comm _ _ hij.symm, List.set_comm _ _ hij.symm] at g5
    refine ⟨v, w, rfl, kn _ _ H1 h1 g5 (s1.less fun c hc => ?_)⟩
    rw [← List.set_comm _ _ hij.symm] at hc
    have c1 := put_sub (t := t) (S := S1.set j (some u)) (by simpa using l1) c hc
    have c2 : c ∈ ownsS (some t :: S1.set j (some u)) := c1
    have c3 : ∀ c ∈ ownsS (S1.set j (some u)), c ∈ ownsS (some u :: S1) := put_sub l2
    simp only [ownsS, List.mem_append] at c2
    show c ∈ ownsS (some t :: some u :: S1)
    simp only [ownsS, List.mem_append]
    rcases c2 with z | z
    · exact .inl z
    · have := c3 c z
      simp only [ownsS, List.mem_append] at this
      exact .inr this
end
/-! ### 20. A def with defaults; keywords -/
/-- a def as the top leaves it -/
structure FnT (K : PySem.W.Frag) (mg : Str → Option Value) (x : Str) (st : Stmt) (dvs : List V) (kws : List (Str × V)) (f : Addr) (fd : FuncData) : Prop where
  F : FunD K x x (defArgs st) (defBody st) (defScope st) dvs kws f fd
  g : mg x = some (.ref f)
theorem fn_okD {P : Program} {w : World} {K : PySem.W.Frag} {mg : Str → Option Value} {base : Heap} {x : Str} {st : Stmt} {f : Addr} {fd : FuncData} {N ps : List Str} {dvs : List V} {kws : List (Str × V)} {k : Nat} {sp : FSp}
    (F : FnT K mg x st dvs kws f fd) (Sc : FnScope N ps (defScope st))
    (hbody : ∀ (cdv : Value) (A : Around) (outer : List Env) (s : Shared) (H : Hp) (E : XK), Room k (A.deeper (PyProof.Rows.envOfC x (defScope st) s.heap.objs.size f cdv)) →
      ∃ td : TSD, PSsD (cxOf CX0 P w K mg base N x (defScope st) f cdv A outer s H E).nox (defBody st) td ∧ ∀ As Qd, As.length = ps.length → sp As Qd → td (bodyE Qd As) (As.map some ++ List.replicate (N.length - As.length) none)) :
    FnOk P w K mg base CX0 (k + 1) f fd ps (spD K ps.length sp) := by
  refine F.F.ok Sc (fun vs H Q E h => ?_) (fun cdv A outer s H vs Q E hr h => ?_)
  · obtain ⟨M, As, Qd, e, g, _⟩ := h
    have := slotsH_len g.sl
    simp only [List.length_map] at this
    omega
  · obtain ⟨M, As, Qd, e, g, q, kk⟩ := h
    obtain ⟨td, hd, hq⟩ := hbody cdv A outer s H E hr
    have hl : As.length = vs.length := by
      have := slotsH_len g.sl
      simpa using this
    refine ⟨_, hd.nox, M, _, _, ?_, hq As Qd e q, ?_, ?_, ?_, ?_⟩
    · have := g.pad (N.length - As.length)
      unfold L2.start
      rw [← hl]
      exact this
    · intro S' σ' H' h1 g1 s1
      have g2 : Good K M (keepPs As S') (vs.map some) H' := g1.sub (fun a ha => (keepPs_sub As S').subset ha) ((keepPs_sub As S').nodup g1.nd) (keepPs_hold (slotsH_map.mp g.sl) g1.sl)
      refine kk _ _ .non H' h1 (g2.fv rfl) (step_flat ((s1.of_owns fun a => by rw [pad_owns]).less fun a ha => (keepPs_sub As S').subset ha))
    · intro t S' v σ' H' h1 g1 s1
      obtain ⟨⟨y, ey, hy⟩, hs⟩ := g1.sl
      cases ey
      have sb : ∀ a ∈ ownsS (some t :: keepPs As S'), a ∈ ownsS (some t :: S') := fun a ha => by
        simp only [ownsS, List.mem_append] at ha ⊢
        exact ha.imp id fun z => (keepPs_sub As S').subset z
      have g2 : Good K M (some t :: keepPs As S') (some v :: vs.map some) H' := g1.sub sb (((keepPs_sub As S').append_left _).nodup g1.nd) ⟨⟨v, rfl, hy⟩, keepPs_hold (slotsH_map.mp g.sl) hs⟩
      exact kk _ _ v H' h1 g2 ((s1.of_owns fun a => by rw [pad_owns]).less sb)
    · intro S' σ' H' h1
      exact h1.elim
    · intro S' σ' H' h1
      exact h1.elim
/-! keywords: values in the parameters' order by their places ix among the written ones and the defaults -/
def pick {α : Type} (ix : List Nat) (z : α) (xs : List α) : List α := ix.map fun i => xs.getD i z
theorem vals_getD {xs : List V} {us : List Value} (r : Vals xs us) (i : Nat) : RelV (xs.getD i .non) (us.getD i .none) := by
  rw [List.getD_eq_getElem?_getD, List.getD_eq_getElem?_getD]
  cases q : xs[i]? with
  | none =>
    rw [Vals.none_of r q]
    rfl
  | some x =>
    obtain ⟨u, e, h⟩ := Vals.get r q
    rw [e]
    exact h
theorem vals_pick {xs : List V} {us : List Value} (r : Vals xs us) : ∀ ix : List Nat, Vals (pick ix .non xs) (pick ix .none us)
  | [] => .nil
  | i :: ix => .cons (vals_getD r i) (vals_pick r ix)
theorem dpAll_pick {K : PySem.W.Frag} {H : Hp} {xs : List V} {ds : List PyData} (r : DpAll K H xs ds) : ∀ ix : List Nat, DpAll K H (pick ix .non xs) (pick ix .none ds)
  | [] => .nil
  | i :: ix => by
    refine .cons ?_ (dpAll_pick r ix)
    show Dp K H (xs.getD i .non) (ds.getD i .none)
    rw [List.getD_eq_getElem?_getD, List.getD_eq_getElem?_getD]
    cases q : ds[i]? with
    | none =>
      have : xs[i]? = none := List.getElem?_eq_none_iff.mpr (by rw [dpAll_len r]; exact List.getElem?_eq_none_iff.mp q)
      rw [this]
      exact .non
    | some d =>
      obtain ⟨v, e, h⟩ := dpAll_get r q
      rw [e]
      exact h
abbrev PKD (X : Cx) (kws : List Keyword) (t : TAD) : Prop := PK X kws (upA X.K t)
theorem PK_imp {X : Cx} {kws : List Keyword} {t t' : TA} (h : PK X kws t) (k : ∀ σ H Q, t' σ H Q → t σ H Q) : PK X kws t' := ⟨fun pos pins s σ H Q I w => h.run pos pins s σ H Q I (k _ _ _ w)⟩
/-- f(e, .., k = v, ..): all plain data -/
def dCallK (n m np : Nat) (f : FSp) (ix : List Nat) (dv : List PyData) (ta tk : TAD) : TD := fun S Q => ta S fun As S1 => tk S1 fun Bs S2 => As.length = n ∧ Bs.length = m ∧ ix.length = np ∧ plnL As = true ∧ plnL Bs = true ∧
  f ((pick ix .none (frzL As ++ frzL Bs ++ dv)).map T.dat) fun t _ => Q t S2
theorem frzL_append : ∀ xs ys : List T, frzL (xs ++ ys) = frzL xs ++ frzL ys
  | [], ys => rfl
  | x :: xs, ys => by simp only [List.cons_append, frzL, frzL_append xs ys]
theorem plnL_append : ∀ xs ys : List T, plnL (xs ++ ys) = (plnL xs && plnL ys)
  | [], ys => by simp [plnL]
  | x :: xs, ys => by simp only [List.cons_append, plnL, plnL_append xs ys, Bool.and_assoc]
/-- all temporaries read as data that nobody owns -/
theorem Good.thaw {K : PySem.W.Frag} {M : Addr → Prop} {S : SS} {σ : St} {H : Hp} {ts : List T} {vs : List V} (g : Good K M (ts.map some ++ S) (vs.map some ++ σ) H) (e : vs.length = ts.length) (p : plnL ts = true) : Good K M S σ H ∧ DpAll K (hidS M S H) vs (frzL ts) := by
  have el : (ts.map some).length = (vs.map some).length := by simp [e]
  refine ⟨g.drops el, ?_⟩
  obtain ⟨q1, _⟩ := (slotsH_append el).mp g.sl
  have nd := g.nd
  rw [ownsS_append, ownsS_map] at nd
  obtain ⟨n1, n2, n3⟩ := List.nodup_append.mp nd
  refine holdsL_dp (same_less drops_sub) ts vs p (fun a ha => hide_in fun z => ?_) (slotsH_map.mp q1)
  rcases z with z | z
  · exact g.dj a (by rw [ownsS_append, ownsS_map]; exact List.mem_append.mpr (.inl ha)) z
  · exact n3 a ha a z rfl
theorem good_of_dps {K : PySem.W.Frag} {M : Addr → Prop} {H : Hp} (tr : ∀ a, M a → H a ≠ none) : ∀ {ds : List PyData} {vs : List V}, DpAll K (hide M H) vs ds → Good K M ((ds.map T.dat).map some) (vs.map some) H
  | [], _, h => by
    cases h
    exact ⟨trivial, List.nodup_nil, fun a ha => absurd ha (by simp [ownsS]), tr⟩
  | d :: ds, _, h => by
    cases h with
    | cons h1 h2 =>
      have g := good_of_dps tr h2
      refine g.flat (dp_mono (same_hide.mpr fun a o hb q => ⟨fun z => hb (z.elim id fun z => ?_), q⟩) _ _ h1)
      rw [ownsS_dats] at z
      exact absurd z (by simp)
section
variable {X : Cx} {k n : Nat} {f : Addr} {fd : FuncData} {ps ks : List Str} {sp : FSp} {dv : List PyData} {dvs : List V} {ds : List Value} {ix : List Nat} {x : Str} {p pos kpos : Pos} {e : Expr} {es : List Expr} {kws : List Keyword} {te : TD} {ta tk : TAD} {nm : Option Str}
theorem pkd_nil : PKD X [] dNil := PK_imp pk_nil fun σ H Q ⟨M, S, Qd, g, q, k⟩ => k [] S [] H q rfl g .refl
theorem pkd_cons (h1 : PD X e te) (h2 : PKD X kws tk) : PKD X (⟨nm, e, kpos⟩ :: kws) (dCons te tk) := by
  refine PK_imp (pk_cons h1 h2) ?_
  rintro σ H Q ⟨M, S, Qd, g, q, k⟩
  refine ⟨M, S, _, g, q, fun x S1 v H1 h1 g1 s1 => ⟨_, S1, _, g1.apart, h1, fun xs S2 vs H2 h2 hl g2 s2 => ?_⟩⟩
  obtain ⟨j1, j2⟩ := g1.join g2 s2
  exact k (x :: xs) S2 (v :: vs) H2 h2 (by simp [hl]) j1 (s1.trans j2)
theorem dpAll_fv {K : PySem.W.Frag} {H : Hp} : ∀ {dv : List PyData} {dvs : List V}, dv.map fv = dvs.map some → DpAll K H dvs dv
  | [], [], _ => .nil
  | d :: dv, v :: dvs, e => by
    simp only [List.map_cons, List.cons.injEq] at e
    exact .cons (dp_fv e.1) (dpAll_fv e.2)
  | [], _ :: _, e => by simp at e
  | _ :: _, [], e => by simp at e
theorem dpAll_append {K : PySem.W.Frag} {H : Hp} : ∀ {xs ys : List V} {ds es : List PyData}, DpAll K H xs ds → DpAll K H ys es → DpAll K H (xs ++ ys) (ds ++ es)
  | _, _, _, _, .nil, h => h
  | _, _, _, _, .cons h1 h2, h => .cons h1 (dpAll_append h2 h)
theorem up_callK {E : XK} {m np : Nat} (hdv : dv.map fv = dvs.map some) : ∀ σ H Q, up X.K (dCallK n m np sp ix dv ta tk) σ H Q → tCallN n m (spD X.K np sp) (fun vs zs => pick ix .non (vs ++ zs ++ dvs)) E (upA X.K ta) (upA X.K tk) σ H Q := by
  rintro σ H Q ⟨M, S, Qd, g, q, kk⟩
  refine ⟨M, S, _, g, q, fun As S1 vs H1 h1 hl g1 s1 => ?_⟩
  have el : (As.map some).length = (vs.map some).length := by simp [hl]
  refine ⟨Bd M (As.map some), S1, _, ?_, h1, fun Bs S2 ws H2 h2 hl2 g2 s2 => ?_⟩
  · obtain ⟨q1, q2⟩ := (slotsH_append el).mp g1.sl
    have nd := g1.nd
    rw [ownsS_append] at nd
    obtain ⟨n1, n2, n3⟩ := List.nodup_append.mp nd
    refine ⟨slotsH_frame (same_hide.mpr fun a o hb q => ⟨fun z => hb ?_, q⟩) (fun _ _ => rfl) q2, n2, fun a ha z => ?_, fun a ha => g1.tracked a ?_⟩
    · simp only [Bd, ownsS_append, List.mem_append] at z ⊢
      rcases z with (z | z) | z
      · exact .inl z
      · exact .inr (.inl z)
      · exact .inr (.inr z)
    · rcases z with z | z
      · exact g1.dj a (by rw [ownsS_append]; exact List.mem_append.mpr (.inr ha)) z
      · exact n3 a z a ha rfl
    · simp only [Bd, ownsS_append, List.mem_append]
      exact ha.imp id .inl
  · obtain ⟨l1, l2, l3, p1, p2, h2⟩ := h2
    -- all temporaries together
    have bd : ∀ (U : SS) a, Bd (Bd M (As.map some)) U a ↔ Bd M (As.map some ++ U) a := fun U a => by
      simp only [Bd, ownsS_append, List.mem_append, or_assoc]
    obtain ⟨q1, q2⟩ := (slotsH_append el).mp g1.sl
    have nd := g1.nd
    rw [ownsS_append] at nd
    obtain ⟨n1, n2, n3⟩ := List.nodup_append.mp nd
    have st : Step M (As.map some ++ S1) H1 (As.map some ++ (Bs.map some ++ S2)) H2 := ⟨fun a o hb q => by
      obtain ⟨x1, x2⟩ := s2.1 a o (fun z => hb ((bd _ a).mp z)) q
      exact ⟨fun z => x1 ((bd _ a).mpr z), x2⟩, fun a ha => s2.2 a (.inl ha)⟩
    have gAll : Good X.K M (As.map some ++ (Bs.map some ++ S2)) (vs.map some ++ (ws.map some ++ σ)) H2 := by
      refine ⟨(slotsH_append el).mpr ⟨slotsH_frame st.same (fun a ha => s2.2 a (.inr ha)) q1, slotsH_frame (same_hide.mpr fun a o hb q => ⟨fun z => hb ((bd _ a).mpr z), q⟩) (fun _ _ => rfl) g2.sl⟩, ?_, fun a ha z => ?_, fun a ha => g2.tk a (.inl ha)⟩
      · rw [ownsS_append]
        exact List.nodup_append.mpr ⟨n1, g2.nd, fun a ha b hb q => g2.dj b hb (.inr (q ▸ ha))⟩
      · rw [ownsS_append] at ha
        rcases List.mem_append.mp ha with h | h
        · exact g1.dj a (by rw [ownsS_append]; exact List.mem_append.mpr (.inl h)) z
        · exact g2.dj a h (.inl z)
    have gA2 : Good X.K M ((As ++ Bs).map some ++ S2) ((vs ++ ws).map some ++ σ) H2 := by
      rw [List.map_append, List.map_append, List.append_assoc, List.append_assoc]
      exact gAll
    obtain ⟨g3, hd⟩ := gA2.thaw (by simp [hl, hl2]) (by rw [plnL_append, p1, p2]; rfl)
    rw [frzL_append] at hd
    have hd2 := dpAll_pick (dpAll_append hd (dpAll_fv hdv)) ix
    have g4 : Good X.K (Bd M S2) (((pick ix .none (frzL As ++ frzL Bs ++ dv)).map T.dat).map some) ((pick ix .non (vs ++ ws ++ dvs)).map some) H2 := good_of_dps g3.tracked hd2
    refine ⟨by rw [hl]; exact l1, by rw [hl2]; exact l2, Bd M S2, _, _, by simp [pick, l3], g4, h2, fun t A' v H' h5 g5 s5 => ?_⟩
    have lA : (some t :: A').length = (some v :: (pick ix .non (vs ++ ws ++ dvs)).map some).length := slotsH_len g5.sl
    have g6 : Good X.K M (((pick ix .none (frzL As ++ frzL Bs ++ dv)).map T.dat).map some ++ S2) ((pick ix .non (vs ++ ws ++ dvs)).map some ++ σ) H2 := by
      have ho : ∀ U, ownsS (((pick ix .none (frzL As ++ frzL Bs ++ dv)).map T.dat).map some ++ U) = ownsS U := fun U => by rw [ownsS_append, ownsS_dats, List.nil_append]
      refine g3.sub (fun a ha => by rw [ho] at ha; exact ha) (by rw [ho]; exact g3.nd) ((slotsH_append (slotsH_len g4.sl)).mpr ⟨slotsH_frame (same_hide.mpr fun a o hb q => ⟨fun z => hb (.inl z), q⟩) (fun _ _ => rfl) g4.sl, g3.sl⟩)
    obtain ⟨g7, s7⟩ := g6.splice (slotsH_len g4.sl) g5 lA s5
    have lA' : A'.length = ((pick ix .non (vs ++ ws ++ dvs)).map some).length := by simpa using lA
    obtain ⟨g8, sb⟩ := putBack_good (back := []) (S0 := S) (w := (pick ix .non (vs ++ ws ++ dvs)).map some) g.sl lA' g7 trivial
    have g8' : Good X.K M (some t :: S2) (some v :: σ) H' := g8
    refine kk t S2 v H' h5 g8' ?_
    have s8 : Step M (As.map some ++ (Bs.map some ++ S2)) H2 S2 H2 := Step.refl.less fun a ha => drops_sub a (drops_sub a ha)
    have s9 : Step M S2 H2 (some t :: S2) H' := (Step.of_owns s7 fun a => by rw [ownsS_append, ownsS_dats, List.nil_append]).less sb
    exact ((s1.trans st).trans s8).trans s9
theorem pd_callK (F : FnOk X.prog X.w X.K X.mg X.base CX0 k f fd ps (spD X.K ps.length sp)) (hr : Room k X.A) (hg : Gl X x) (hm : X.mg x = some (.ref f)) (hk : PySem.W.keepIn X.K (.ref f) = true)
    (hb : KBn X.K fd ps n ks (fun us ws => pick ix .none (us ++ ws ++ ds)) (fun vs zs => pick ix .non (vs ++ zs ++ dvs))) (hdv : dv.map fv = dvs.map some)
    (ha : PAD X (e :: es) ta) (hkw : PKD X kws tk) (hall : (backToKw pos (keywordEach kws X.env)).all (·.1.isSome) = true := by rfl) (hks : (backToKw pos (keywordEach kws X.env)).filterMap (·.1) = ks := by rfl)
    (hdb : (x == ("__debug__" : Str)) = false := by decide) (he : starEach (e :: es) X.env = (false, eval e X.env) :: starEach es X.env := by rfl)
    (hpl : ((backTo pos (starEach (e :: es) X.env)).any (·.1) || (backToKw pos (keywordEach kws X.env)).any (·.1.isNone)) = false := by rfl) : PD X (.Call (.Name x p) (e :: es) kws pos) (dCallK n ks.length ps.length sp ix dv ta tk) :=
  PE_imp (pe_callN F hr hg hm hk hb pass0 ha hkw (hall := hall) (hks := hks) (hdb := hdb) (he := he) (hpl := hpl)) (up_callK hdv)
/-- f(k = v, ..) -/
theorem pd_callK0 (F : FnOk X.prog X.w X.K X.mg X.base CX0 k f fd ps (spD X.K ps.length sp)) (hr : Room k X.A) (hg : Gl X x) (hm : X.mg x = some (.ref f)) (hk : PySem.W.keepIn X.K (.ref f) = true)
    (hb : KBn X.K fd ps 0 ks (fun us ws => pick ix .none (us ++ ws ++ ds)) (fun vs zs => pick ix .non (vs ++ zs ++ dvs))) (hdv : dv.map fv = dvs.map some)
    (hkw : PKD X kws tk) (hall : (backToKw pos (keywordEach kws X.env)).all (·.1.isSome) = true := by rfl) (hks : (backToKw pos (keywordEach kws X.env)).filterMap (·.1) = ks := by rfl)
    (hdb : (x == ("__debug__" : Str)) = false := by decide)
    (hpl : ((backTo pos (starEach [] X.env)).any (·.1) || (backToKw pos (keywordEach kws X.env)).any (·.1.isNone)) = false := by rfl) : PD X (.Call (.Name x p) [] kws pos) (dCallK 0 ks.length ps.length sp ix dv dNil tk) := by
  have h1 : PE X (.Call (.Name x p) [] kws pos) (tCallN 0 ks.length (spD X.K ps.length sp) (fun vs zs => pick ix .non (vs ++ zs ++ dvs)) E0 tNil (upA X.K tk)) := by
    constructor
    intro pins s σ H Q I h
    apply PySem.wpAny_Call_Name_kw
    refine ld_glob I hg hm ?_ hdb
    refine PySem.W.callWith_KW0 (h₀ := X.base) I.ok.mod.kin hk hall ?_ hpl
    refine thn (hkw.run pos pins s σ H _ I h) fun ws s2 ⟨zs, H2, I2, rz, l1, l2, q2⟩ => ⟨I2.kIn, ?_⟩
    rw [hks]
    exact run_fnN (us := []) (vs := []) F hr hb pass0 I2 .nil rz rfl l2 q2
  refine PE_imp h1 fun σ H Q w => ?_
  obtain ⟨M, S, Qd, g, q, kk⟩ := up_callK (E := E0) hdv σ H Q w
  exact kk [] S [] H q rfl g .refl
end
end DL
namespace DL
open PySem L2

/-! ### 21. repr of lists and tuples, where no other repr runs -/
def reprK : CaK
  | [d], Q => PyProof.Rows.isDisplay d = true ∧ d.showable = true ∧ d.hasDict = false ∧ d.depth ≤ 60 ∧ d.shown.length ≤ sizeLine ∧ Q (.str d.shown)
  | _, _ => False
theorem ca_repr {X : Cx} (hg : X.A.guards = some []) (hu : X.A.units + 64 < cLine) : CaD X (.builtin "repr") reprK := by
  refine ⟨fun vs H Q => ∃ v d, vs = [v] ∧ Dp X.K H v d ∧ PyProof.Rows.isDisplay d = true ∧ d.showable = true ∧ d.hasDict = false ∧ d.depth ≤ 60 ∧ d.shown.length ≤ sizeLine ∧ Q (.str d.shown) H, ?_, ?_⟩
  · intro pins s σ H xs us Q I r h
    obtain ⟨v, d, rfl, hd, h1, h2, h3, h4, h5, q⟩ := h
    cases r with
    | cons r1 r2 =>
      cases r2
      obtain ⟨as, rd⟩ := Dp.reads I d v _ hd r1
      obtain ⟨a, rfl⟩ := PyProof.Rows.isRef_of_reads rd h1
      exact repr_of_reads' rd h2 (PyData.noDict_hsm h3) hg (by omega) (fun _ _ e => e) (fun h' u tk hk => ⟨.str d.shown, H, I.kept (t' := tk) hk, ⟨u, rfl⟩, q⟩) h5
  · intro vs ds H Q Qd h q k
    unfold reprK at q
    split at q
    · next d =>
      obtain ⟨h1, h2, h3, h4, h5, q⟩ := q
      cases h with
      | cons a b =>
        cases b
        exact ⟨_, d, rfl, a, h1, h2, h3, h4, h5, k _ _ rfl q⟩
    · exact q.elim

/-! ### 22. The law's own call, at the claim's caller -/
def lawE : DE := { nx := fun _ => False, rt := fun t _ => t = .dat (.bool true) }
/-- the script as the one thing tracked -/
noncomputable def scriptH (K : PySem.W.Frag) (a : Addr) (o : Obj) (ns : List Int) : Hp := open Classical in fun b => if b = a ∧ K.lookup a = none then some (.frz o (.lst (ns.map V.int))) else none
theorem law_end {l : PySem.W.OpenLaw} {k : Nat} {q : Program} {loose : List Str} {XP : (Str → Option Value) → Heap → Prop} {YP : World → Heap → Prop} {d : DefRec} {K : Params → PySem.W.Frag} {N : List Str} {st : Stmt}
    (hn : l.most = some 63) (hdf : d.params.defaults = []) (hr : Room (k + 1) callerA) (hY : ∀ (w : World) (h : Heap), YP w h → (K w.params).In h)
    (F : ∀ (w : World) (mg : Str → Option Value) (fa : Addr) (h : Heap), (K w.params).In h → h.Ns mainGlobals mg → mg d.name = some (.ref fa) → FnScope N ["script"] (defScope st) ∧
      ∃ fd : FuncData, FnT (K w.params) mg "law" st [] [] fa fd ∧ (∀ (s : Shared) (u : Value), BindsTo s fd ⟨[u], []⟩ [("script", u)]) ∧ ∀ base : Heap, (K w.params).In base → base.Ns mainGlobals mg →
        ∀ (cdv : Value) (s : Shared) (H : Hp) (E : XK), Room k (callerA.deeper (PyProof.Rows.envOfC "law" (defScope st) s.heap.objs.size fa cdv)) →
        ∃ td : TSD, PSsD (cxOf CX0 l.prog w (K w.params) mg base N "law" (defScope st) fa cdv callerA [] s H E).nox (defBody st) td ∧
          ∀ ns : List Int, ns.length ≤ 63 → td lawE (some (.dat (.list (ns.map .int))) :: List.replicate (N.length - 1) none)) :
    PySem.W.WalkO q loose XP YP l.row.toRowW d [] (fun f vs => PySem.call f vs) := by
  refine Att.attach_call hn hdf fun w s₀ s₁ mg mb fa o pm cd doc a vs ns G Y ho hd hcd hmg hobj hints hlen hg => ?_
  have KX : (K w.params).In s₁.heap := hY w _ Y
  obtain ⟨Sc, fd, FT, bind, body⟩ := F w mg fa _ KX G.T.g hmg
  generalize eK : K w.params = K0 at *
  let ob : Obj := { cls := .type "list", data := .seq vs.toArray }
  have tracked : ∀ b u, scriptH K0 a ob ns b = some u → b = a ∧ K0.lookup a = none ∧ u = .frz ob (.lst (ns.map V.int)) := by
    intro b u e
    unfold scriptH at e
    split at e
    · next z => exact ⟨z.1, z.2, (Option.some.inj e).symm⟩
    · cases e
  have lv : (ns.map V.int).length = vs.length := by
    rw [List.length_map]
    exact hints.length.symm
  have small : (ns.map V.int).length ≤ sizeLine := by
    rw [List.length_map]
    exact Nat.le_trans hlen (by decide)
  have rv : Vals (ns.map V.int) vs := vals_ints hints
  have okH : HOk l.prog w (scriptH K0 a ob ns) s₁.heap := by
    intro b u e
    obtain ⟨rfl, _, rfl⟩ := tracked b u e
    exact ⟨hobj, small, vs, _, rv, hobj⟩
  -- a dict, or a thing of the top, is not the script
  have free : ∀ b ob', s₁.heap.get? b = some ob' → (K0.lookup b = some ob' ∨ ∃ es ep, ob'.data = .dict es ep) → scriptH K0 a ob ns b = none := by
    intro b ob' e1 e2
    cases q : scriptH K0 a ob ns b with
    | none => rfl
    | some u =>
      obtain ⟨rfl, hk, _⟩ := tracked b u q
      rcases e2 with e2 | ⟨es, ep, e2⟩
      · rw [hk] at e2
        cases e2
      · rw [hobj] at e1
        cases e1
        cases e2
  have below : ∀ {b : Addr} {m : Str → Option Value}, s₁.heap.Ns b m → (hidT s₁.heap (scriptH K0 a ob ns)).Ns b m := by
    rintro b m ⟨ob', es, ep, e, dd, r⟩
    exact ⟨ob', es, ep, hidT_get e (free b ob' e (.inr ⟨es, ep, dd⟩)), dd, r⟩
  have KB : K0.In (hidT s₁.heap (scriptH K0 a ob ns)) := fun b ob' e => hidT_get (KX b ob' e) (free b ob' (KX b ob' e) (.inl e))
  have lim : (hidT s₁.heap (scriptH K0 a ob ns)).NoLimit := by
    obtain ⟨mc, m1, m2⟩ := G.T.nolimit
    exact ⟨mc, below m1, m2⟩
  have e0 : Env0 l.prog w K0 mg (hidT s₁.heap (scriptH K0 a ob ns)) callerA [] s₁ (scriptH K0 a ob ns) :=
    { frames := rfl, mod := ⟨KB, below G.T.g, ⟨mb, below G.T.b, G.T.builtins⟩, lim⟩, bs := fun b ob' e => of_hidT e, bsz := Nat.le_of_eq (hidT_size _ _), funs := trivial, frf := fun b hb => absurd hb (by simp [frs]), hok := okH, bare := .of_eq hg }
  have seen : SqL K0 (scriptH K0 a ob ns) a (ns.map V.int) := by
    cases hk : K0.lookup a with
    | none =>
      refine .inl (.inr ⟨ob, ?_⟩)
      unfold scriptH
      rw [if_pos ⟨rfl, hk⟩]
    | some ob' =>
      have e := KX a ob' hk
      rw [hobj] at e
      cases e
      exact .inr ⟨_, vs.toArray, _, hk, rfl, rfl, rfl, by rw [List.size_toArray, ← lv]; exact small, by simpa using rv⟩
  -- the def's frame
  obtain ⟨oc, od, dV, kV, doc', pm', an, cdv, ct, osl, rfl, lk, hcode, _, _⟩ := FT.F.ex
  refine codeAny_call_function hr.depth (KX _ _ lk) rfl Sc.co Sc.gen rfl (PySem.W.codeRec_of KX hcode) (bind s₁ (.ref a) _ _ _ _ ?_)
  have kinds : ∀ y ∈ [(("script" : Str), Value.ref a)], (defScope st).names.lookup y.1 = some .local ∨ ((defScope st).names.lookup y.1 = some .cell ∧ ((PySem.cellsFrom (s₁.heap.objs.size + 1) (defScope st).names []).lookup y.1).isSome = true) := by
    intro y hy
    obtain rfl : y = (("script" : Str), Value.ref a) := by simpa using hy
    exact (Sc.par "script" (by simp)).imp id fun z => ⟨z, PySem.W.cellsFrom_some _ _ _ (.inl z)⟩
  refine wpAny_newFunctionEnv_cells Sc.kind kinds fun env he s1 x => ?_
  subst he
  refine ⟨G.T.nolimit.keeps x.toInCall.keep, codeAny_func ?_⟩
  obtain ⟨td, htd, run⟩ := body _ KB (below G.T.g) cdv s₁ (scriptH K0 a ob ns) (fun _ _ _ => False) (hr.deeper _)
  have I := inv_start (CX := CX0) (E := fun _ _ _ => False) (vs := [.ref a]) Sc hr.hd e0 rfl (.cons rfl .nil) x
  have g : Good K0 (fun _ => False) [some (.dat (.list (ns.map .int)))] [some (.ref a)] (scriptH K0 a ob ns) := by
    have intsD : ∀ (H : Hp) (ns : List Int), DpAll K0 H (ns.map V.int) (ns.map .int) := by
      intro H ns
      induction ns with
      | nil => exact .nil
      | cons n ns ih => exact .cons (.int n) ih
    have es : ∀ H : Hp, hide (Bd (fun _ => False) [some (.dat (.list (ns.map .int)))]) H = H := fun H => by
      funext b
      exact hide_in fun z => z.elim id fun z => by simp [ownsS, T.owns] at z
    refine ⟨⟨⟨_, rfl, ?_⟩, trivial⟩, by simp [ownsS, T.owns], fun _ _ z => z, fun _ z => z.elim⟩
    simp only [T.holds]
    show Dp K0 (hide _ _) _ _
    rw [es]
    exact .lst seen (intsD _ ns)
  have gp := g.pad (N.length - 1)
  refine wpAny_mono (htd.nox.run [] s1 (L2.start N [.ref a]) (scriptH K0 a ob ns) { nx := fun _ _ => False, rt := fun v _ => v = .bl true } I ⟨fun _ => False, _, lawE, gp, run ns hlen, fun _ _ _ z => z.elim, ?_, fun _ _ _ z => z.elim, fun _ _ _ z => z.elim⟩) (fun fl s' hs => ?_) fun e s' hs => ?_
  · intro t S' v σ' H' ht g1 _
    subst ht
    exact g1.bool
  · cases fl with
    | ret u =>
      obtain ⟨v, σ', H', J, rr, hv⟩ := hs
      subst hv
      obtain rfl : u = .bool true := rr
      refine ⟨rfl, OldK.of_keep fun b ob' e => ?_, J.os, J.bare⟩
      cases qb : scriptH K0 a ob ns b with
      | none => exact J.base.keep b ob' e qb (fun z => absurd (show b ∈ ([] : List Addr) from z) (by simp)) (fun z => absurd (show b ∈ ([] : List Addr) from z) (by simp))
      | some u =>
        obtain ⟨rfl, _, rfl⟩ := tracked b u qb
        have h2 := J.hok _ _ (J.base.frzs _ _ _ qb)
        rw [hobj] at e
        cases e
        exact h2.1
    | next =>
      obtain ⟨_, _, _, z⟩ := hs
      exact z.elim
    | brk =>
      obtain ⟨_, _, _, z⟩ := hs
      exact z.elim
    | cont =>
      obtain ⟨_, _, _, z⟩ := hs
      exact z.elim
  · exact wpAny_mono hs (fun _ _ z => False.elim z) fun _ _ z => False.elim z
end DL
namespace DL
open PySem L2

/-! ### 23. Data of a bounded depth without texts -/
mutual
def shp : Nat → PyData → Bool
  | _, .none => true
  | _, .bool _ => true
  | _, .int _ => true
  | n + 1, .list xs => shpAll n xs
  | n + 1, .tuple xs => shpAll n xs
  | _, _ => false
def shpAll : Nat → List PyData → Bool
  | _, [] => true
  | n, x :: xs => shp n x && shpAll n xs
end
mutual
theorem shp_lay : ∀ (d : PyData) (n : Nat), shp n d = true → d.canLay0 = true ∧ d.depth ≤ n
  | .none, n, _ => ⟨rfl, Nat.zero_le _⟩
  | .bool _, n, _ => ⟨rfl, Nat.zero_le _⟩
  | .int _, n, _ => ⟨rfl, Nat.zero_le _⟩
  | .str _, n, h => by cases n <;> simp [shp] at h
  | .list xs, 0, h => by simp [shp] at h
  | .list xs, n + 1, h => by
    obtain ⟨h1, h2⟩ := shpAll_lay xs n (by simpa [shp] using h)
    exact ⟨by simpa [PyData.canLay0] using h1, by simpa [PyData.depth] using h2⟩
  | .tuple xs, 0, h => by simp [shp] at h
  | .tuple xs, n + 1, h => by
    obtain ⟨h1, h2⟩ := shpAll_lay xs n (by simpa [shp] using h)
    exact ⟨by simpa [PyData.canLay0] using h1, by simpa [PyData.depth] using h2⟩
  | .dict _, n, h => by cases n <;> simp [shp] at h
theorem shpAll_lay : ∀ (xs : List PyData) (n : Nat), shpAll n xs = true → PyData.canLayAll0 xs = true ∧ PyData.depthAll xs ≤ n
  | [], n, _ => ⟨rfl, Nat.zero_le _⟩
  | x :: xs, n, h => by
    simp only [shpAll, Bool.and_eq_true] at h
    obtain ⟨h1, h2⟩ := shp_lay x n h.1
    obtain ⟨h3, h4⟩ := shpAll_lay xs n h.2
    exact ⟨by simp [PyData.canLayAll0, h1, h3], by simp only [PyData.depthAll]; omega⟩
end
theorem shaped_of {d : PyData} (n : Nat) (h : shp n d = true) (hn : n ≤ 64 := by decide) : SeqAt.shaped d = true := by
  obtain ⟨h1, h2⟩ := shp_lay d n h
  simp only [SeqAt.shaped, Bool.and_eq_true, decide_eq_true_eq]
  exact ⟨h1, by omega⟩
theorem shaped_none : SeqAt.shaped .none = true := rfl
theorem shaped_bool (b : Bool) : SeqAt.shaped (.bool b) = true := rfl
theorem shaped_int (i : Int) : SeqAt.shaped (.int i) = true := rfl
theorem eqOk_int (i j : Int) : eqOk (.int i) (.int j) = true := rfl
theorem eqOk_none (i : Int) : eqOk (.int i) .none = true := rfl
theorem eqOk_bool (a b : Bool) : eqOk (.bool a) (.bool b) = true := rfl
theorem eqOk_str (x y : Str) : eqOk (.str x) (.str y) = true := rfl
theorem eqOk_of {d e : PyData} (n m : Nat) (h : shp n d = true) (k : shp m e = true) (hn : n ≤ 64 := by decide) (hm : m ≤ 64 := by decide) : eqOk d e = true := by
  have h1 := shaped_of n h hn
  have h2 := shaped_of m k hm
  unfold eqOk
  split
  · rfl
  · simp [h1, h2]
theorem eqv_int (i j : Int) : PyData.eqv (.int i) (.int j) = decide (i = j) := by
  simp only [PyData.eqv]
  by_cases h : i = j <;> simp [h]
theorem shpAll_map {α : Type} (f : α → PyData) (n : Nat) (h : ∀ x, shp n (f x) = true) : ∀ xs : List α, shpAll n (xs.map f) = true
  | [] => rfl
  | x :: xs => by simp [shpAll, h x, shpAll_map f n h xs]
theorem shpAll_mem {n : Nat} : ∀ {xs : List PyData}, (∀ x ∈ xs, shp n x = true) → shpAll n xs = true
  | [], _ => rfl
  | x :: xs, h => by simp [shpAll, h x (List.mem_cons_self ..), shpAll_mem fun y hy => h y (List.mem_cons_of_mem _ hy)]
mutual
theorem eqv_refl : ∀ (d : PyData) (n : Nat), shp n d = true → PyData.eqv d d = true
  | .none, _, _ => by simp [PyData.eqv]
  | .bool _, _, _ => by simp [PyData.eqv]
  | .int _, _, _ => by simp [PyData.eqv]
  | .str _, n, h => by cases n <;> simp [shp] at h
  | .list xs, 0, h => by simp [shp] at h
  | .list xs, n + 1, h => by simp only [PyData.eqv]; exact eqvAll_refl xs n (by simpa [shp] using h)
  | .tuple xs, 0, h => by simp [shp] at h
  | .tuple xs, n + 1, h => by simp only [PyData.eqv]; exact eqvAll_refl xs n (by simpa [shp] using h)
  | .dict _, n, h => by cases n <;> simp [shp] at h
theorem eqvAll_refl : ∀ (xs : List PyData) (n : Nat), shpAll n xs = true → PyData.eqvAll xs xs = true
  | [], _, _ => by simp [PyData.eqvAll]
  | x :: xs, n, h => by
    simp only [shpAll, Bool.and_eq_true] at h
    simp [PyData.eqvAll, eqv_refl x n h.1, eqvAll_refl xs n h.2]
end
/-! lists walked by a comprehension -/
theorem atI_nat' {α : Type} {xs : List α} {i : Nat} : atI xs (i : Int) = xs[i]? := by
  unfold atI ixN
  by_cases h : i < xs.length
  · have h2 : ((i : Nat) : Int) < (xs.length : Int) := by omega
    simp [h2]
  · have h2 : ¬ ((i : Nat) : Int) < (xs.length : Int) := by omega
    simp [h2]
    omega
/-- each turn makes one plain value out of its item -/
theorem lc_map {g : TGD} {te : TD} {vs : List Nat} {S : SS} {R : List T → SS → Prop} (f : PyData → PyData) : ∀ (ds : List PyData) (acc : List T), (∀ d ∈ ds, ∀ Q : T → SS → Prop, (∀ U, wipeD U vs = S → Q (.dat (f d)) U) → g (.dat d) S fun S1 => te S1 Q) →
    acc.length + ds.length ≤ sizeLine → R (acc ++ ds.map fun d => .dat (f d)) S → dLcL g dYes te vs ds acc S R
  | [], acc, _, _, r => by simpa [dLcL] using r
  | d :: ds, acc, h, hl, r => by
    show g (.dat d) S fun S1 => te S1 fun y S3 => acc.length < sizeLine ∧ dLcL g dYes te vs ds (acc ++ [y]) (wipeD S3 vs) R
    refine h d (List.mem_cons_self ..) _ fun U hU => ⟨by simp only [List.length_cons] at hl; omega, ?_⟩
    rw [hU]
    refine lc_map f ds (acc ++ [.dat (f d)]) (fun e he => h e (List.mem_cons_of_mem _ he)) (by simp only [List.length_append, List.length_cons, List.length_nil] at hl ⊢; omega) ?_
    simpa using r
/-- a comprehension by an invariant over what was made and the slots; L: how many turns in all -/
theorem lc_inv {g : TGD} {te : TD} {vs : List Nat} {R : List T → SS → Prop} (L : Nat) (I : List T → SS → Prop) : ∀ (ds : List PyData) (acc : List T) (S : SS), (∀ d ∈ ds, ∀ acc S, acc.length < L → I acc S → ∀ Q : T → SS → Prop, (∀ y U, I (acc ++ [y]) (wipeD U vs) → Q y U) → g (.dat d) S fun S1 => te S1 Q) →
    acc.length + ds.length = L → L ≤ sizeLine → I acc S → (∀ acc' S', acc'.length = L → I acc' S' → R acc' S') → dLcL g dYes te vs ds acc S R
  | [], acc, S, _, hl, _, i, r => r acc S (by simpa using hl) i
  | d :: ds, acc, S, h, hl, hL, i, r => by
    have h1 : acc.length < L ∧ acc.length < sizeLine ∧ (∀ y : T, (acc ++ [y]).length + ds.length = L) := by
      simp only [List.length_cons] at hl
      exact ⟨by omega, by omega, fun y => by simp only [List.length_append, List.length_cons, List.length_nil]; omega⟩
    show g (.dat d) S fun S1 => te S1 fun y S3 => acc.length < sizeLine ∧ dLcL g dYes te vs ds (acc ++ [y]) (wipeD S3 vs) R
    exact h d (List.mem_cons_self ..) acc S h1.1 i _ fun y U iU => ⟨h1.2.1, lc_inv L I ds (acc ++ [y]) _ (fun e he => h e (List.mem_cons_of_mem _ he)) (h1.2.2 y) hL iU r⟩
/-- the items that a test keeps -/
theorem lc_filter {g : TGD} {tt : TTD} {te : TD} {vs : List Nat} {S : SS} {R : List T → SS → Prop} (p : PyData → Bool) (f : PyData → PyData) : ∀ (ds : List PyData) (acc : List T),
    (∀ d ∈ ds, ∀ (Q : T → SS → Prop) (N : SS → Prop), (p d = true → ∀ U, wipeD U vs = S → Q (.dat (f d)) U) → (p d = false → ∀ U, wipeD U vs = S → N U) → g (.dat d) S fun S1 => tt S1 fun b S2 => if b = true then te S2 Q else N S2) →
    acc.length + ds.length ≤ sizeLine → R (acc ++ (ds.filter p).map fun d => .dat (f d)) S → dLcL g tt te vs ds acc S R
  | [], acc, _, _, r => by simpa [dLcL] using r
  | d :: ds, acc, h, hl, r => by
    have hl' : acc.length < sizeLine ∧ (acc ++ [T.dat (f d)]).length + ds.length ≤ sizeLine ∧ acc.length + ds.length ≤ sizeLine := by
      simp only [List.length_append, List.length_cons, List.length_nil] at hl ⊢
      omega
    show g (.dat d) S fun S1 => tt S1 fun b S2 => if b = true then te S2 fun y S3 => acc.length < sizeLine ∧ dLcL g tt te vs ds (acc ++ [y]) (wipeD S3 vs) R else dLcL g tt te vs ds acc (wipeD S2 vs) R
    refine h d (List.mem_cons_self ..) _ (fun S2 => dLcL g tt te vs ds acc (wipeD S2 vs) R) (fun hp U hU => ⟨hl'.1, ?_⟩) fun hp U hU => ?_
    · rw [hU]
      refine lc_filter p f ds (acc ++ [.dat (f d)]) (fun e he => h e (List.mem_cons_of_mem _ he)) hl'.2.1 ?_
      simpa [hp] using r
    · show dLcL g tt te vs ds acc (wipeD U vs) R
      rw [hU]
      refine lc_filter p f ds acc (fun e he => h e (List.mem_cons_of_mem _ he)) hl'.2.2 ?_
      simpa [hp] using r
/-- a loop by an invariant over how many items were walked -/
theorem for_inv {g : TGD} {t : TSD} {D : DE} (I : Nat → SS → Prop) : ∀ (ds : List PyData) (i : Nat) (S : SS), (∀ k d S, ds[k]? = some d → I (i + k) S → ∀ N : SS → Prop, (∀ U, I (i + k + 1) U → N U) → g (.dat d) S fun S1 => t { D with nx := N, ct := N, bk := D.nx } S1) →
    I i S → (∀ S, I (i + ds.length) S → D.nx S) → dForL g t ds D S
  | [], i, S, _, hi, hd => hd S hi
  | d :: ds, i, S, h, hi, hd => by
    show g (.dat d) S fun S1 => t { D with nx := dForL g t ds D, ct := dForL g t ds D, bk := D.nx } S1
    refine h 0 d S rfl hi _ fun U hU => ?_
    refine for_inv I ds (i + 1) U (fun k e S he hS N hN => ?_) hU fun S hS => ?_
    · have := h (k + 1) e S (by simpa using he) (by rw [show i + (k + 1) = i + 1 + k by omega]; exact hS) N fun U hU => hN U (by rw [show i + 1 + k + 1 = i + (k + 1) + 1 by omega]; exact hU)
      exact this
    · exact hd S (by rw [show i + (d :: ds).length = i + 1 + ds.length by simp; omega]; exact hS)
/-- a while by an invariant and a measure -/
theorem while_inv {c : TTD} {t : TSD} {D : DE} {S : SS} {α : Type} (st : α → SS) (ok : α → Prop) (m : α → Nat) (a0 : α) (h0 : S = st a0) (k0 : ok a0)
    (h : ∀ a, ok a → ∀ N : SS → Prop, (∀ b, ok b → m b < m a → N (st b)) → c (st a) fun b S1 => if b = true then t { D with nx := N, ct := N, bk := D.nx } S1 else D.nx S1) : dWhile c t D S := by
  refine ⟨fun n S => ∃ a, ok a ∧ m a = n ∧ S = st a, ⟨m a0, a0, k0, rfl, h0⟩, ?_⟩
  rintro n S ⟨a, ha, rfl, rfl⟩
  exact h a ha _ fun b hb hm => ⟨m b, hm, b, hb, rfl, rfl⟩
theorem plnL_dats {α : Type} (f : α → PyData) : ∀ ds : List α, plnL (ds.map fun d => .dat (f d)) = true
  | [] => rfl
  | d :: ds => by simp [plnL, T.pln, plnL_dats f ds]
theorem frzL_dats {α : Type} (f : α → PyData) : ∀ ds : List α, frzL (ds.map fun d => .dat (f d)) = ds.map f
  | [] => rfl
  | d :: ds => by simp [frzL, T.frz, frzL_dats f ds]
theorem map_inj {α β : Type} {f : α → β} (hf : ∀ x y, f x = f y → x = y) : ∀ {xs ys : List α}, xs.map f = ys.map f → xs = ys
  | [], [], _ => rfl
  | [], _ :: _, h => by simp at h
  | _ :: _, [], h => by simp at h
  | x :: xs, y :: ys, h => by
    simp only [List.map_cons, List.cons.injEq] at h
    rw [hf _ _ h.1, map_inj hf h.2]
theorem allK_map {α : Type} (ds : List α) (p : α → Bool) (Q : PyData → Prop) : allK [.list (ds.map fun d => .bool (p d))] Q = Q (.bool (ds.all p)) := by
  have e : (ds.map fun d => PyData.bool (p d)) = (ds.map p).map .bool := by simp
  simp only [allK, eq_iff_iff]
  constructor
  · rintro ⟨bs, h1, h2⟩
    rw [e] at h1
    have := map_inj (fun x y h => by simpa using h) h1
    subst this
    simpa [List.all_map] using h2
  · intro h
    exact ⟨ds.map p, e, by simpa [List.all_map] using h⟩
theorem anyK_map {α : Type} (ds : List α) (p : α → Bool) (Q : PyData → Prop) : anyK [.list (ds.map fun d => .bool (p d))] Q = Q (.bool (ds.any p)) := by
  have e : (ds.map fun d => PyData.bool (p d)) = (ds.map p).map .bool := by simp
  simp only [anyK, eq_iff_iff]
  constructor
  · rintro ⟨bs, h1, h2⟩
    rw [e] at h1
    have := map_inj (fun x y h => by simpa using h) h1
    subst this
    simpa [List.any_map] using h2
  · intro h
    exact ⟨ds.map p, e, by simpa [List.any_map] using h⟩
theorem sumK_map {α : Type} (ds : List α) (p : α → Int) (Q : PyData → Prop) : sumK [.list (ds.map fun d => .int (p d))] Q = Q (.int (ds.map p).sum) := by
  have e : (ds.map fun d => PyData.int (p d)) = (ds.map p).map .int := by simp
  simp only [sumK, eq_iff_iff]
  constructor
  · rintro ⟨bs, h1, h2⟩
    rw [e] at h1
    have := map_inj (fun x y h => by simpa using h) h1
    subst this
    exact h2
  · intro h
    exact ⟨ds.map p, e, h⟩
theorem atI_0 {α : Type} (x : α) (xs : List α) : atI (x :: xs) 0 = some x := by
  have := atI_nat' (xs := x :: xs) (i := 0)
  simpa using this
theorem atI_1 {α : Type} (x y : α) (xs : List α) : atI (x :: y :: xs) 1 = some y := by
  have := atI_nat' (xs := x :: y :: xs) (i := 1)
  simpa using this
theorem atI_2 {α : Type} (x y z : α) (xs : List α) : atI (x :: y :: z :: xs) 2 = some z := by
  have := atI_nat' (xs := x :: y :: z :: xs) (i := 2)
  simpa using this
theorem atI_3 {α : Type} (x y z w : α) (xs : List α) : atI (x :: y :: z :: w :: xs) 3 = some w := by
  have := atI_nat' (xs := x :: y :: z :: w :: xs) (i := 3)
  simpa using this
theorem atI_4 {α : Type} (x y z w v : α) (xs : List α) : atI (x :: y :: z :: w :: v :: xs) 4 = some v := by
  have := atI_nat' (xs := x :: y :: z :: w :: v :: xs) (i := 4)
  simpa using this
theorem ixN_0 (n : Nat) : ixN (n + 1) 0 = some 0 := by
  unfold ixN
  have : (0 : Int) < ((n + 1 : Nat) : Int) := by omega
  simp [this]
theorem ixN_1 (n : Nat) : ixN (n + 1 + 1) 1 = some 1 := by
  unfold ixN
  have : (1 : Int) < ((n + 1 + 1 : Nat) : Int) := by omega
  simp only [this]
  simp
theorem ixN_2 (n : Nat) : ixN (n + 1 + 1 + 1) 2 = some 2 := by
  unfold ixN
  have : (2 : Int) < ((n + 1 + 1 + 1 : Nat) : Int) := by omega
  simp only [this]
  simp
theorem rngD_len (lo : Int) (n : Nat) : (rngD lo n).length = n := by simp [rngD]
theorem mem_rngD {lo : Int} {n : Nat} {d : PyData} (h : d ∈ rngD lo n) : ∃ i : Nat, i < n ∧ d = .int (lo + (i : Int)) := by
  simp only [rngD, List.mem_map, List.mem_range] at h
  obtain ⟨i, hi, rfl⟩ := h
  exact ⟨i, hi, rfl⟩
theorem get_rngD {lo : Int} {n k : Nat} {d : PyData} (h : (rngD lo n)[k]? = some d) : k < n ∧ d = .int (lo + (k : Int)) := by
  have hk : k < n := by
    have := (List.getElem?_eq_some_iff.mp h).1
    simpa [rngD] using this
  simp only [rngD, List.getElem?_map, List.getElem?_range hk, Option.map_some] at h
  exact ⟨hk, (Option.some.inj h).symm⟩
end DL
namespace DL
open PySem L2

/-! ### 24. A def that only reads: what it is handed stays the caller's own -/
def bor (f : FSp) : FSp := fun As Q => plnL As = true ∧ f ((frzL As).map T.dat) fun t _ => (match t with
  | .dat z => (fv z).isSome = true
  | _ => False) ∧ Q t (As.map some)
theorem frzL_len : ∀ ts : List T, (frzL ts).length = ts.length
  | [] => rfl
  | t :: ts => by simp [frzL, frzL_len ts]
theorem bor_ok {P : Program} {w : World} {K : PySem.W.Frag} {mg : Str → Option Value} {base : Heap} {k n : Nat} {f : Addr} {fd : FuncData} {ps : List Str} {sp : FSp} (F : FnOk P w K mg base CX0 k f fd ps (spD K n sp)) : FnOk P w K mg base CX0 k f fd ps (spD K n (bor sp)) := by
  refine F.imp ?_
  rintro vs H Q E ⟨M, As, Qd, hl, g, ⟨p, hf⟩, kk⟩
  have hv : vs.length = As.length := by
    have := slotsH_len g.sl
    simpa using this.symm
  have g0 : Good K M (As.map some ++ []) (vs.map some ++ []) H := by simpa using g
  obtain ⟨g1, hd⟩ := g0.thaw hv p
  have hM : ∀ a, Bd M [] a ↔ M a := fun a => ⟨fun z => z.elim id fun z => by simp [ownsS] at z, .inl⟩
  have hd' : DpAll K (hide M H) vs (frzL As) := dpAll_mono (same_hide.mpr fun a o hb q => ⟨fun z => hb ((hM a).mpr z), q⟩) _ _ hd
  refine ⟨M, (frzL As).map T.dat, _, by simp [frzL_len, hl], good_of_dps g.tk hd', hf, fun t A' v H' h2 g2 s2 => ?_⟩
  obtain ⟨hz, h2⟩ := h2
  cases t with
  | node sh a ts => exact hz.elim
  | any => exact hz.elim
  | dat z =>
    obtain ⟨u, hu⟩ := Option.isSome_iff_exists.mp hz
    -- what the caller owns was not touched
    have same : ∀ a o, ¬ M a → H a = some o → H' a = some o := fun a o hb q => (s2.1 a o (fun z => hb (z.elim id fun z => by rw [ownsS_dats] at z; simp at z)) q).2
    have own : ∀ a ∈ ownsS (As.map some), H' a = H a := fun a ha => by
      cases q : H a with
      | none => exact absurd q (g.tracked a (.inr ha))
      | some o => exact same a o (g.dj a ha) q
    have st : Step M (As.map some) H (As.map some) H' := ⟨fun a o hb q => ⟨hb, same a o (fun z => hb (.inl z)) q⟩, s2.2⟩
    have g3 : Good K M (As.map some) (vs.map some) H' := ⟨slotsH_frame st.same own g.sl, g.nd, g.dj, g2.tk⟩
    have ev : v = u := by
      have := g2.dat
      cases z <;> simp [fv] at hu <;> subst hu <;> cases this <;> rfl
    subst ev
    exact kk _ _ _ H' h2 (g3.fv hu) (step_flat st)

/-! ### 25. xs.clear(); things within a slot's own list changed, not read again -/
section
variable {K : PySem.W.Frag} {M : Addr → Prop} {S : SS} {σ : St} {H : Hp}
/-- nothing is known any more of the k-th thing within; its object was changed -/
theorem Good.spoil {i k : Nat} {sh sh2 : Sh} {a b : Addr} {ts us : List T} {o : HO} (g : Good K M S σ H) (e : S[i]? = some (some (.node sh a ts))) (e2 : ts[k]? = some (.node sh2 b us)) (hx : sh.more = []) :
    σ[i]? = some (some (.ref a)) ∧ ∃ vs ws, H a = some (sh.ho vs) ∧ vs[k]? = some (.ref b) ∧ vs.length = ts.length ∧ H b = some (sh2.ho ws) ∧ ws.length = us.length ∧
      Good K M (S.set i (some (.node sh a (ts.set k .any)))) σ (upd H b o) ∧ Step M S H (S.set i (some (.node sh a (ts.set k .any)))) (upd H b o) := by
  obtain ⟨y, e1, g1⟩ := g.take e
  obtain ⟨⟨y', ey, hy⟩, hS⟩ := g1.sl
  cases ey
  simp only [T.holds] at hy
  obtain ⟨rfl, vs, ho, _, hl⟩ := hy
  obtain ⟨v, ev, hv⟩ := holdsL_get hl e2
  simp only [T.holds] at hv
  obtain ⟨rfl, ws, hb, _, hw⟩ := hv
  have nd := g1.nd
  simp only [ownsS, T.owns, hx, List.nil_append, List.cons_append] at nd
  obtain ⟨na, nd⟩ := List.nodup_cons.mp nd
  obtain ⟨nt, nS, dj⟩ := List.nodup_append.mp nd
  -- the children but the k-th
  have perm : (ownsL ts).Perm ((T.node sh2 b us).owns ++ ownsL (ts.set k .any)) := by
    have hk : (ts.map some)[k]? = some (some (T.node sh2 b us)) := by simp [e2]
    have p1 := ownsS_get_perm hk
    have hlt : k < (ts.map some).length := (List.getElem?_eq_some_iff.mp hk).1
    have p2 := ownsS_some_perm T.any (ts.map some) k hlt
    rw [ownsL_map, ownsL_map, map_some_set]
    refine p1.trans (List.Perm.append_left _ ?_)
    simpa [T.owns] using p2.symm
  have nt2 := perm.nodup_iff.mp nt
  obtain ⟨nb, nr, dbr⟩ := List.nodup_append.mp nt2
  have bIn : b ∈ (T.node sh2 b us).owns := by simp [T.owns]
  have bts : b ∈ ownsL ts := perm.symm.subset (List.mem_append.mpr (.inl bIn))
  have hab : a ≠ b := fun z => na (List.mem_append.mpr (.inl (z ▸ bts)))
  have bM : ¬ M b := g1.dj b (by simp only [ownsS, T.owns, hx, List.nil_append, List.cons_append, List.mem_cons, List.mem_append]; exact .inr (.inl bts))
  have rsub : ∀ c ∈ ownsL (ts.set k .any), c ∈ ownsL ts ∧ c ≠ b := fun c hc => ⟨perm.symm.subset (List.mem_append.mpr (.inr hc)), fun z => dbr b bIn c hc z.symm⟩
  have sub : ∀ c ∈ ownsS (some (T.node sh a (ts.set k .any)) :: S.set i none), c ∈ ownsS (some (T.node sh a ts) :: S.set i none) := fun c hc => by
    simp only [ownsS, T.owns, hx, List.nil_append, List.cons_append, List.mem_cons, List.mem_append] at hc ⊢
    rcases hc with h | h | h
    · exact .inl h
    · exact .inr (.inl (rsub c h).1)
    · exact .inr (.inr h)
  have st : Step M (some (.node sh a ts) :: S.set i none) H (some (.node sh a (ts.set k .any)) :: S.set i none) (upd H b o) := by
    refine ⟨fun c u hn q => ⟨fun z => hn (z.elim .inl fun z => .inr (sub c z)), ?_⟩, fun c hc => upd_ne fun z => bM (z ▸ hc)⟩
    have hcb : c ≠ b := fun z => hn (.inr (by
      rw [z]
      simp only [ownsS, T.owns, hx, List.nil_append, List.cons_append, List.mem_cons, List.mem_append]
      exact .inr (.inl bts)))
    rw [upd_ne hcb]
    exact q
  have rest : ∀ {ts : List T} {vs : List V} {k : Nat}, (∀ c ∈ ownsL (ts.set k .any), c ≠ b) → holdsL K (hidS M (some (.node sh a ts) :: S.set i none) H) H ts vs → True := fun _ _ => trivial
  have hl2 : holdsL K (hidS M (some (.node sh a ts) :: S.set i none) H) H (ts.set k .any) vs := by
    have hset : ∀ {ts : List T} {vs : List V} {k : Nat} {Hd : Hp}, holdsL K Hd H ts vs → holdsL K Hd H (ts.set k .any) vs := by
      intro ts
      induction ts with
      | nil => intro vs k Hd h; simpa using h
      | cons t ts ih =>
        intro vs k Hd h
        simp only [holdsL] at h
        obtain ⟨u, r, rfl, h1, h2⟩ := h
        cases k with
        | zero =>
          simp only [List.set_cons_zero, holdsL]
          exact ⟨u, r, rfl, by simp only [T.holds], h2⟩
        | succ k =>
          simp only [List.set_cons_succ, holdsL]
          exact ⟨u, r, rfl, h1, ih h2⟩
    exact hset hl
  have gn : Good K M (some (.node sh a (ts.set k .any)) :: S.set i none) (some (.ref a) :: σ) (upd H b o) := by
    refine ⟨⟨⟨_, rfl, ?_⟩, slotsH_frame st.same (fun c hc => upd_ne fun z => dj b bts c hc z.symm) hS⟩, ?_, fun c hc => g1.dj c (sub c hc), fun c hc => ?_⟩
    · simp only [T.holds, true_and]
      exact ⟨vs, by rw [upd_ne hab]; exact ho, fun x hxx => absurd hxx (by rw [hx]; simp), holdsL_frame st.same _ _ (fun c hc => upd_ne (rsub c hc).2) hl2⟩
    · simp only [ownsS, T.owns, hx, List.nil_append, List.cons_append]
      refine List.nodup_cons.mpr ⟨fun z => na ?_, List.nodup_append.mpr ⟨nr, nS, fun c hc d hd => dj c (rsub c hc).1 d hd⟩⟩
      rcases List.mem_append.mp z with z | z
      · exact List.mem_append.mpr (.inl (rsub a z).1)
      · exact List.mem_append.mpr (.inr z)
    · have hcb : c ≠ b := fun z => bM (z ▸ hc)
      rw [upd_ne hcb]
      exact g1.tk c hc
  have gb := gn.back e1
  rw [List.set_set] at gb
  have hi : i < S.length := (List.getElem?_eq_some_iff.mp e).1
  refine ⟨e1, vs, ws, ho, ev, holdsL_len hl, hb, holdsL_len hw, gb, ((Step.refl.less (take_sub e)).trans st).less fun c hc => ?_⟩
  have := (ownsS_some_perm (.node sh a (ts.set k .any)) S i hi).subset hc
  simpa only [ownsS] using this
end
def dClr (i : Nat) : TSD := fun D S => match S[i]? with
  | some (some (.node .lst a _)) => D.nx (S.set i (some (.node .lst a [])))
  | _ => False
/-- xs[k].append(a written value), xs[k].clear(), xs a slot's own list of own lists: what stands there is not read again -/
def dMutIx (i : Nat) (k : Int) : TSD := fun D S => match S[i]? with
  | some (some (.node .lst a ts)) => (match ixN ts.length k with
    | some n => (match ts[n]? with
      | some (.node .lst _ us) => us.length < sizeLine ∧ D.nx (S.set i (some (.node .lst a (ts.set n .any))))
      | _ => False)
    | none => False)
  | _ => False
section
variable {X : Cx} {e : Expr} {te : TD} {pos p pp sp ip p3 : Pos} {y : Str} {j : Int} {kk : Nat}
theorem upS_clr {K : PySem.W.Frag} {i : Nat} : ∀ D σ H, upS K (dClr i) D σ H → tDrop (tBM0 K "list" rClear (tVar i)) D σ H := by
  rintro D σ H ⟨M, S, Dd, g, q, kn, kr, kb, kc⟩
  unfold dClr at q
  split at q
  · next a ts e0 =>
    have gx := g.fv (d := .none) (u := .non) rfl
    obtain ⟨vs, e5, ho, hl, g5, s5⟩ := gx.store e0 (fun _ => []) (ts' := []) (fun Hd H' vs hx hl => by simp [holdsL]) (fun _ => by simp [ownsL]) (fun c hc => by simp [ownsL] at hc)
    exact ⟨_, e5, .inl ⟨rfl, _, SqL.of ho⟩, a, vs, rfl, rfl, ho, kn _ _ _ q g5 ((step_flat .refl).trans s5)⟩
  · exact q.elim
theorem psd_clr (i : Nat) (hs : swapsWith (.Call (.Attribute (.Name y p) "clear" pp) [] [] sp) none pos.line X.env = pure false := by rfl)
    (hx : PE X (.Call (.Attribute (.Name y p) "clear" pp) [] [] sp) (tBM0 X.K "list" rClear (tVar i))) : PSD X (.Expr (.Call (.Attribute (.Name y p) "clear" pp) [] [] sp) pos) (dClr i) := PS_imp (ps_expr hx hs) upS_clr
theorem upS_mutIx {K : PySem.W.Frag} {i : Nat} {o : List V → HO} {R : TE} (hR : ∀ σ H b ws Q, H b = some (.lst ws) → ws.length < sizeLine → Q .non (upd H b (o ws)) → tOp (rIxL K) (tVar i) (tC (.int j)) σ H (fun x H1 => x = .ref b ∧ H1 = H) → R σ H Q) : ∀ D σ H, upS K (dMutIx i j) D σ H → tDrop R D σ H := by
  rintro D σ H ⟨M, S, Dd, g, q, kn, kr, kb, kc⟩
  unfold dMutIx at q
  split at q
  · next a ts e0 =>
    split at q
    · next n en =>
      split at q
      · next b us et =>
        obtain ⟨hlen, q⟩ := q
        obtain ⟨_, _, ws0, _, _, _, hb0, hwl0, _⟩ := g.spoil (o := .lst []) e0 et rfl
        obtain ⟨ev, vs, ws, ho, evk, hvl, hb, hwl, g1, s1⟩ := g.spoil (o := o ws0) e0 et rfl
        have hat : atI vs j = some (.ref b) := by
          unfold atI
          rw [hvl, en]
          exact evk
        exact hR σ H b ws0 _ hb0 (by rw [hwl0]; exact hlen) (kn _ _ _ q g1 s1) ⟨_, ev, _, _, _, _, rfl, rfl, SqL.of ho, hat, rfl, rfl⟩
      · exact q.elim
    · exact q.elim
  · exact q.elim
theorem mut_append {K : PySem.W.Frag} {i : Nat} {v : V} : ∀ σ H b ws Q, H b = some (.lst ws) → ws.length < sizeLine → Q .non (upd H b (.lst (ws ++ [v]))) → tOp (rIxL K) (tVar i) (tC (.int j)) σ H (fun x H1 => x = .ref b ∧ H1 = H) →
    tBM K "list" rAppend (tOp (rIxL K) (tVar i) (tC (.int j))) (tCons (tC v) tNil) σ H Q := by
  rintro σ H b ws Q hb hl q ⟨x, hx, p, xs, k, y, e1, e2, h1, h2, e3, e4⟩
  subst e1 e3
  exact ⟨_, hx, p, xs, k, _, rfl, e2, h1, h2, .inl ⟨rfl, _, SqL.of hb⟩, b, ws, v, rfl, rfl, hb, hl, q⟩
theorem mut_clear {K : PySem.W.Frag} {i : Nat} : ∀ σ H b ws Q, H b = some (.lst ws) → ws.length < sizeLine → Q .non (upd H b (.lst [])) → tOp (rIxL K) (tVar i) (tC (.int j)) σ H (fun x H1 => x = .ref b ∧ H1 = H) →
    tBM0 K "list" rClear (tOp (rIxL K) (tVar i) (tC (.int j))) σ H Q := by
  rintro σ H b ws Q hb hl q ⟨x, hx, p, xs, k, y, e1, e2, h1, h2, e3, e4⟩
  subst e1 e3
  exact ⟨_, hx, p, xs, k, _, rfl, e2, h1, h2, .inl ⟨rfl, _, SqL.of hb⟩, b, ws, rfl, rfl, hb, q⟩
theorem psd_appIx (i : Nat) (v : V) (hs : swapsWith (.Call (.Attribute (.Subscript (.Name y p) (.Constant (.int j) kk ip) p3) "append" pp) [e] [] sp) none pos.line X.env = pure false := by rfl)
    (hx : PE X (.Call (.Attribute (.Subscript (.Name y p) (.Constant (.int j) kk ip) p3) "append" pp) [e] [] sp) (tBM X.K "list" rAppend (tOp (rIxL X.K) (tVar i) (tC (.int j))) (tCons (tC v) tNil))) :
    PSD X (.Expr (.Call (.Attribute (.Subscript (.Name y p) (.Constant (.int j) kk ip) p3) "append" pp) [e] [] sp) pos) (dMutIx i j) := PS_imp (ps_expr hx hs) (upS_mutIx (o := fun ws => .lst (ws ++ [v])) mut_append)
theorem psd_clrIx (i : Nat) (hs : swapsWith (.Call (.Attribute (.Subscript (.Name y p) (.Constant (.int j) kk ip) p3) "clear" pp) [] [] sp) none pos.line X.env = pure false := by rfl)
    (hx : PE X (.Call (.Attribute (.Subscript (.Name y p) (.Constant (.int j) kk ip) p3) "clear" pp) [] [] sp) (tBM0 X.K "list" rClear (tOp (rIxL X.K) (tVar i) (tC (.int j))))) :
    PSD X (.Expr (.Call (.Attribute (.Subscript (.Name y p) (.Constant (.int j) kk ip) p3) "clear" pp) [] [] sp) pos) (dMutIx i j) := PS_imp (ps_expr hx hs) (upS_mutIx (o := fun _ => .lst []) mut_clear)
end
end DL
namespace DL
open PySem L2

/-! ### 26. Small numbers in lists of at most L things: what repr asks -/
mutual
def num : Nat → Nat → PyData → Bool
  | _, _, .none => true
  | _, _, .bool _ => true
  | _, _, .int i => decide (i.natAbs < 10 ^ 12)
  | L, n + 1, .list xs => decide (xs.length ≤ L) && numAll L n xs
  | L, n + 1, .tuple xs => decide (xs.length ≤ L) && numAll L n xs
  | _, _, _ => false
def numAll : Nat → Nat → List PyData → Bool
  | _, _, [] => true
  | L, n, x :: xs => num L n x && numAll L n xs
end
/-- a bound of the weight -/
def wgt (L : Nat) : Nat → Nat
  | 0 => 44
  | n + 1 => L * (wgt L n + 1) + 44
theorem wgt_ge (L : Nat) : ∀ n, 44 ≤ wgt L n
  | 0 => Nat.le_refl _
  | n + 1 => Nat.le_add_left ..
theorem numAll_iff {L n : Nat} : ∀ {xs : List PyData}, numAll L n xs = true ↔ ∀ x ∈ xs, num L n x = true
  | [] => by simp [numAll]
  | x :: xs => by simp only [numAll, Bool.and_eq_true, List.mem_cons, forall_eq_or_imp, numAll_iff (xs := xs)]
theorem num_log {i : Int} (h : i.natAbs < 10 ^ 12) : i.natAbs.log2 < 44 := PySem.Flt.log2_lt_of (by decide) (Nat.lt_of_lt_of_le h (by decide))
mutual
theorem num_all : ∀ (L : Nat) (d : PyData) (n : Nat), num L n d = true → shp n d = true ∧ d.showable = true ∧ d.hasDict = false ∧ d.intsShort 13 = true ∧ d.weight ≤ wgt L n
  | L, .none, n, _ => ⟨by cases n <;> rfl, rfl, rfl, rfl, Nat.zero_le _⟩
  | L, .bool _, n, _ => ⟨by cases n <;> rfl, rfl, rfl, rfl, Nat.zero_le _⟩
  | L, .int i, n, h => by
    have h1 : i.natAbs < 10 ^ 12 := by cases n <;> simpa [num] using h
    have h2 := num_log h1
    have h3 := wgt_ge L n
    refine ⟨by cases n <;> rfl, by simp only [PyData.showable, decide_eq_true_eq]; omega, rfl, by simp only [PyData.intsShort, decide_eq_true_eq]; exact PyData.shown_int_le h1, ?_⟩
    simp only [PyData.weight]
    split <;> omega
  | L, .str _, n, h => by cases n <;> simp [num] at h
  | L, .list xs, 0, h => by simp [num] at h
  | L, .list xs, n + 1, h => by
    simp only [num, Bool.and_eq_true, decide_eq_true_eq] at h
    obtain ⟨h1, h2, h3, h4, h5⟩ := numAll_all L xs n h.2
    refine ⟨by simpa [shp] using h1, by simpa [PyData.showable] using h2, by simpa [PyData.hasDict] using h3, by simpa [PyData.intsShort] using h4, ?_⟩
    simp only [PyData.weight, wgt]
    have := Nat.mul_le_mul_right (wgt L n + 1) h.1
    omega
  | L, .tuple xs, 0, h => by simp [num] at h
  | L, .tuple xs, n + 1, h => by
    simp only [num, Bool.and_eq_true, decide_eq_true_eq] at h
    obtain ⟨h1, h2, h3, h4, h5⟩ := numAll_all L xs n h.2
    refine ⟨by simpa [shp] using h1, by simpa [PyData.showable] using h2, by simpa [PyData.hasDict] using h3, by simpa [PyData.intsShort] using h4, ?_⟩
    simp only [PyData.weight, wgt]
    have := Nat.mul_le_mul_right (wgt L n + 1) h.1
    omega
  | L, .dict _, n, h => by cases n <;> simp [num] at h
theorem numAll_all : ∀ (L : Nat) (xs : List PyData) (n : Nat), numAll L n xs = true → shpAll n xs = true ∧ PyData.showableAll xs = true ∧ PyData.hasDictAll xs = false ∧ PyData.intsShortAll 13 xs = true ∧ PyData.weightAll xs ≤ xs.length * (wgt L n + 1)
  | L, [], n, _ => ⟨rfl, rfl, rfl, rfl, Nat.zero_le _⟩
  | L, x :: xs, n, h => by
    simp only [numAll, Bool.and_eq_true] at h
    obtain ⟨a1, a2, a3, a4, a5⟩ := num_all L x n h.1
    obtain ⟨b1, b2, b3, b4, b5⟩ := numAll_all L xs n h.2
    refine ⟨by simp [shpAll, a1, b1], by simp [PyData.showableAll, a2, b2], by simp [PyData.hasDictAll, a3, b3], by simp [PyData.intsShortAll, a4, b4], ?_⟩
    simp only [PyData.weightAll, List.length_cons, Nat.succ_mul]
    omega
end
theorem repr_ok {d : PyData} (L n : Nat) (h : num L n d = true) (hd : PyProof.Rows.isDisplay d = true) (hn : n ≤ 60 := by decide) (hw : wgt L n ≤ 2 ^ 20 := by decide) (Q : PyData → Prop) (q : Q (.str d.shown)) : reprK [d] Q := by
  obtain ⟨h1, h2, h3, h4, h5⟩ := num_all L d n h
  obtain ⟨l1, l2⟩ := shp_lay d n h1
  refine ⟨hd, h2, h3, by omega, PyData.shown_fits_of_layable0 (B := 13) (by decide) (by decide) ?_ h4, q⟩
  simp only [PyData.layable0, Bool.and_eq_true, decide_eq_true_eq]
  exact ⟨⟨l1, by omega⟩, by omega⟩
end DL
namespace DL
open PySem L2

/-! ### 27. Walks over encoded things -/
/-- each turn makes one plain value out of its encoded item -/
theorem lc_mapA {α : Type} {g : TGD} {te : TD} {vs : List Nat} {S : SS} {R : List T → SS → Prop} (enc f : α → PyData) : ∀ (xs : List α) (acc : List T), (∀ x ∈ xs, ∀ Q : T → SS → Prop, (∀ U, wipeD U vs = S → Q (.dat (f x)) U) → g (.dat (enc x)) S fun S1 => te S1 Q) →
    acc.length + xs.length ≤ sizeLine → R (acc ++ xs.map fun x => .dat (f x)) S → dLcL g dYes te vs (xs.map enc) acc S R
  | [], acc, _, _, r => by simpa [dLcL] using r
  | d :: ds, acc, h, hl, r => by
    show g (.dat (enc d)) S fun S1 => te S1 fun y S3 => acc.length < sizeLine ∧ dLcL g dYes te vs (ds.map enc) (acc ++ [y]) (wipeD S3 vs) R
    refine h d (List.mem_cons_self ..) _ fun U hU => ⟨by simp only [List.length_cons] at hl; omega, ?_⟩
    rw [hU]
    refine lc_mapA enc f ds (acc ++ [.dat (f d)]) (fun e he => h e (List.mem_cons_of_mem _ he)) (by simp only [List.length_append, List.length_cons, List.length_nil] at hl ⊢; omega) ?_
    simpa using r
/-- the items that a test keeps, by their codes -/
theorem lc_filterA {α : Type} {g : TGD} {tt : TTD} {te : TD} {vs : List Nat} {S : SS} {R : List T → SS → Prop} (enc f : α → PyData) (p : α → Bool) : ∀ (ds : List α) (acc : List T),
    (∀ d ∈ ds, ∀ (Q : T → SS → Prop) (N : SS → Prop), (p d = true → ∀ U, wipeD U vs = S → Q (.dat (f d)) U) → (p d = false → ∀ U, wipeD U vs = S → N U) → g (.dat (enc d)) S fun S1 => tt S1 fun b S2 => if b = true then te S2 Q else N S2) →
    acc.length + ds.length ≤ sizeLine → R (acc ++ (ds.filter p).map fun d => .dat (f d)) S → dLcL g tt te vs (ds.map enc) acc S R
  | [], acc, _, _, r => by simpa [dLcL] using r
  | d :: ds, acc, h, hl, r => by
    have hl' : acc.length < sizeLine ∧ (acc ++ [T.dat (f d)]).length + ds.length ≤ sizeLine ∧ acc.length + ds.length ≤ sizeLine := by
      simp only [List.length_append, List.length_cons, List.length_nil] at hl ⊢
      omega
    show g (.dat (enc d)) S fun S1 => tt S1 fun b S2 => if b = true then te S2 fun y S3 => acc.length < sizeLine ∧ dLcL g tt te vs (ds.map enc) (acc ++ [y]) (wipeD S3 vs) R else dLcL g tt te vs (ds.map enc) acc (wipeD S2 vs) R
    refine h d (List.mem_cons_self ..) _ (fun S2 => dLcL g tt te vs (ds.map enc) acc (wipeD S2 vs) R) (fun hp U hU => ⟨hl'.1, ?_⟩) fun hp U hU => ?_
    · rw [hU]
      refine lc_filterA enc f p ds (acc ++ [.dat (f d)]) (fun e he => h e (List.mem_cons_of_mem _ he)) hl'.2.1 ?_
      simpa [hp] using r
    · show dLcL g tt te vs (ds.map enc) acc (wipeD U vs) R
      rw [hU]
      refine lc_filterA enc f p ds acc (fun e he => h e (List.mem_cons_of_mem _ he)) hl'.2.2 ?_
      simpa [hp] using r
theorem eqv_strS (x : Str) : PyData.eqv (.str x) (.str x) = true := by simp [PyData.eqv]
theorem zipD_map {α β : Type} (f : α → PyData) (g : β → PyData) : ∀ (xs : List α) (ys : List β), zipD (xs.map f) (ys.map g) = (xs.zip ys).map fun p => .tuple [f p.1, g p.2]
  | [], ys => by cases ys <;> simp [zipD]
  | x :: xs, [] => by simp [zipD]
  | x :: xs, y :: ys => by simp [zipD, zipD_map f g xs ys]
theorem range_get {α β : Type} (f : α → β) (z : β) : ∀ xs : List α, ((List.range xs.length).map fun j => (match xs[j]? with
  | some x => f x
  | none => z)) = xs.map f := fun xs => by
  refine List.ext_getElem? fun i => ?_
  by_cases h : i < xs.length
  · simp [List.getElem?_range h, List.getElem?_eq_getElem h]
  · simp [List.getElem?_eq_none (Nat.le_of_not_lt h), List.getElem?_eq_none (show (List.range xs.length).length ≤ i by simp; omega)]
theorem zip_get {α β : Type} {xs : List α} {ys : List β} {i : Nat} {x : α} {y : β} (h1 : xs[i]? = some x) (h2 : ys[i]? = some y) : (xs.zip ys)[i]? = some (x, y) := by
  rw [List.getElem?_zip_eq_some]
  exact ⟨h1, h2⟩
/-- a walk over the places of a list -/
theorem lc_mapN {g : TGD} {te : TD} {vs : List Nat} {S : SS} {R : List T → SS → Prop} (f : Nat → PyData) (L : Nat) (h : ∀ j < L, ∀ Q : T → SS → Prop, (∀ U, wipeD U vs = S → Q (.dat (f j)) U) → g (.dat (.int (0 + (j : Int)))) S fun S1 => te S1 Q)
    (hl : L ≤ sizeLine) (r : R ((List.range L).map fun j => .dat (f j)) S) : dLcL g dYes te vs (rngD 0 L) [] S R :=
  lc_mapA (fun i : Nat => .int (0 + (i : Int))) f (List.range L) [] (fun j hj Q hQ => h j (List.mem_range.mp hj) Q hQ) (by simpa using hl) (by simpa using r)
theorem as_range {α : Type} (d : α) (xs : List α) : ∃ G : Nat → α, xs = (List.range xs.length).map G := ⟨fun j => xs.getD j d, by
  refine List.ext_getElem? fun i => ?_
  by_cases h : i < xs.length
  · simp [List.getElem?_range h, List.getElem?_eq_getElem h]
  · simp [List.getElem?_eq_none (Nat.le_of_not_lt h), List.getElem?_eq_none (show (List.range xs.length).length ≤ i by simp; omega)]⟩
theorem get_range {α : Type} {f : Nat → α} {L i : Nat} (h : i < L) : ((List.range L).map f)[i]? = some (f i) := by simp [List.getElem?_range h]
theorem zip_rng {α β : Type} {xs : List α} {G : Nat → α} {C : Nat → β} (h : xs = (List.range xs.length).map G) : xs.zip ((List.range xs.length).map C) = (List.range xs.length).map fun j => (G j, C j) := by
  have : xs.zip ((List.range xs.length).map C) = ((List.range xs.length).map G).zip ((List.range xs.length).map C) := by rw [← h]
  rw [this, List.zip_map']
end DL
namespace DL
open PySem L2

/-! ### 28. list + list, list[lo:hi]: a new list of what the parts hold -/
def rCatK (K : PySem.W.Frag) : R2 := fun x y H Q => ∃ l b xs zs, x = .ref l ∧ y = .ref b ∧ SqL K H l xs ∧ SqL K H b zs ∧ xs.length + zs.length ≤ sizeLine ∧ ∀ p, H p = none → Q (.ref p) (upd H p (.lst (xs ++ zs)))
theorem op_catK {X : Cx} : OpR X (binaryOp .Add) (rCatK X.K) := by
  intro pins s σ H x y v u Q I rx ry h
  obtain ⟨l, b, xs, zs, rfl, rfl, hx, hb, hz, q⟩ := h
  cases rx
  cases ry
  obtain ⟨its, r, ht, hl⟩ := I.list hx
  obtain ⟨its2, r2, ht2, hl2⟩ := I.list hb
  obtain ⟨⟨cls, dd, data, sl⟩, ho, hc, n, hd⟩ := id ht.isList
  obtain ⟨⟨cls2, dd2, data2, sl2⟩, ho2, hc2, n2, hd2⟩ := id ht2.isList
  simp only at hc hd hc2 hd2
  subst hc hd hc2 hd2
  have e1 := r.length
  have e2 := r2.length
  have e : its.toArray ++ its2.toArray = (its ++ its2).toArray := by simp
  refine PySem.concat_meets ⟨_, ho, rfl⟩ ⟨_, ho2, rfl⟩ PySem.noFill_list_add PySem.seq_list_add PySem.F.slot_list_add PySem.F.entry_list_add (PySem.F.args_list_add_2 _ _) (PyProof.Rows.list_addW l b its.toArray its2.toArray n n2 dd dd2 sl sl2 (by simp only [List.size_toArray]; omega)) ⟨ho, ho2, ?_⟩
  rw [e]
  exact ⟨.ref _, _, I.lnew (t' := s.toks) (r.append r2) (by rw [List.length_append]; omega), rfl, q _ I.fresh⟩
section
variable {K : PySem.W.Frag} {M : Addr → Prop} {S : SS} {σ : St} {H : Hp}
theorem dpAll_drop {K : PySem.W.Frag} {H : Hp} : ∀ (n : Nat) {vs : List V} {ds : List PyData}, DpAll K H vs ds → DpAll K H (vs.drop n) (ds.drop n)
  | 0, _, _, h => h
  | n + 1, _, [], h => by cases h; exact .nil
  | n + 1, _, d :: ds, h => by
    cases h with
    | cons h1 h2 => exact dpAll_drop n h2
theorem dpAll_take {K : PySem.W.Frag} {H : Hp} : ∀ (n : Nat) {vs : List V} {ds : List PyData}, DpAll K H vs ds → DpAll K H (vs.take n) (ds.take n)
  | 0, _, _, h => .nil
  | n + 1, _, [], h => by cases h; exact .nil
  | n + 1, _, d :: ds, h => by
    cases h with
    | cons h1 h2 => exact .cons h1 (dpAll_take n h2)
theorem ownsS_datsA : ∀ (ds : List PyData) (S : SS), ownsS ((ds.map T.dat).map some ++ S) = ownsS S
  | [], S => rfl
  | d :: ds, S => by
    show (T.dat d).owns ++ ownsS ((ds.map T.dat).map some ++ S) = ownsS S
    rw [ownsS_datsA ds S]
    rfl
theorem good_push : ∀ {ds : List PyData} {vs : List V}, Good K M S σ H → DpAll K (hidS M S H) vs ds → Good K M ((ds.map T.dat).map some ++ S) (vs.map some ++ σ) H
  | [], _, g, h => by
    cases h
    exact g
  | d :: ds, _, g, h => by
    cases h with
    | cons h1 h2 =>
      have g1 := good_push g h2
      refine g1.flat ?_
      have e : hidS M ((ds.map T.dat).map some ++ S) H = hidS M S H := by
        unfold hidS
        refine congrArg (fun B => hide B H) ?_
        funext a
        show (M a ∨ a ∈ ownsS ((ds.map T.dat).map some ++ S)) = (M a ∨ a ∈ ownsS S)
        rw [ownsS_datsA]
      rw [e]
      exact h1
/-- a new list of frozen things -/
theorem new_list {ds : List PyData} {vs : List V} {p : Addr} (g : Good K M S σ H) (h : DpAll K (hidS M S H) vs ds) (hp : H p = none) :
    Good K M (some (.node .lst p (ds.map T.dat)) :: S) (some (.ref p) :: σ) (upd H p (.lst vs)) ∧ Step M S H (some (.node .lst p (ds.map T.dat)) :: S) (upd H p (.lst vs)) := by
  have g1 := good_push g h
  obtain ⟨j1, j2⟩ := g1.wrap (sh := .lst) (by simp [dpAll_len h]) hp rfl
  refine ⟨j1, ?_⟩
  have s0 : Step M S H ((ds.map T.dat).map some ++ S) H := Step.refl.less fun a ha => by rw [ownsS_datsA] at ha; exact ha
  exact s0.trans j2
end
def dCat (ta tb : TD) : TD := fun S Q => ta S fun t S1 => tb S1 fun u S2 => t.pln = true ∧ u.pln = true ∧ match t.frz, u.frz with
  | .list ds, .list es => ds.length + es.length ≤ sizeLine ∧ ∀ p, Q (.node .lst p ((ds ++ es).map T.dat)) S2
  | _, _ => False
/-- the part lo:hi, ends left out or not below nought -/
def cutD (ds : List PyData) (lo hi : Option Int) : List PyData := (ds.drop (HT.sIx ds.length 0 lo)).take (HT.sIx ds.length ds.length hi - HT.sIx ds.length 0 lo)
abbrev TOD := SS → (Option Int → SS → Prop) → Prop
def dNoPart : TOD := fun S Q => Q none S
def dPart (t : TD) : TOD := fun S Q => t S fun x S1 => match x with
  | .dat (.int i) => Q (some i) S1
  | _ => False
def dSl (ta : TD) (tl th : TOD) : TD := fun S Q => ta S fun t S1 => t.pln = true ∧ tl S1 fun l S2 => th S2 fun h S3 => match t.frz with
  | .list ds => ∀ p, Q (.node .lst p ((cutD ds l h).map T.dat)) S3
  | _ => False
section
variable {X : Cx} {a b : Expr} {ta tb : TD} {pos p2 : Pos}
theorem pd_cat (ha : PD X a ta) (hb : PD X b tb) : PD X (.BinOp a .Add b pos) (dCat ta tb) := by
  refine PE_imp (pe_op op_catK ha hb) ?_
  rintro σ H Q ⟨M, S, Qd, g0, q, k⟩
  refine up2 g0 q fun t u S2 v w H2 h2 g2 s2 => ?_
  obtain ⟨p1, p2, h2⟩ := h2
  have g2' : Good X.K M (([t, u] : List T).map some ++ S2) (([v, w] : List V).map some ++ σ) H2 := g2
  obtain ⟨g3, hd⟩ := g2'.thaw rfl (by simp [plnL, p1, p2])
  simp only [frzL] at hd
  cases hd with
  | cons d1 d2 =>
    cases d2 with
    | cons d2 _ =>
      split at h2
      · next ds es e1 e2 =>
        obtain ⟨hz, h2⟩ := h2
        rw [e1] at d1
        rw [e2] at d2
        cases d1 with
        | lst q1 r1 =>
          cases d2 with
          | lst q2 r2 =>
            have un : ∀ {a xs}, SqL X.K (hidS M S2 H2) a xs → SqL X.K H2 a xs := fun h => by
              rcases h with h | h
              · rcases h with h | ⟨o, h⟩
                · exact .inl (.inl (hide_some.mp h).2)
                · exact .inl (.inr ⟨o, (hide_some.mp h).2⟩)
              · exact .inr h
            refine ⟨_, _, _, _, rfl, rfl, un q1, un q2, by rw [dpAll_len r1, dpAll_len r2]; exact hz, fun p hp => ?_⟩
            obtain ⟨j1, j2⟩ := new_list g3 (dpAll_append r1 r2) hp
            exact k _ S2 _ _ (h2 p) j1 ((s2.less fun c hc => by
              simp only [ownsS, List.mem_append]
              exact .inr (.inr hc)).trans j2)
      · exact h2.elim
theorem PO_imp {e : Option Expr} {t t' : TO} (h : PO X e t) (k : ∀ σ H Q, t' σ H Q → t σ H Q) : PO X e t' := ⟨fun pins s σ H Q I w => h.run pins s σ H Q I (k _ _ _ w)⟩
def upO (K : PySem.W.Frag) (td : TOD) : TO := fun σ H Q => ∃ (M : Addr → Prop) (S : SS) (Qd : Option Int → SS → Prop), Good K M S σ H ∧ td S Qd ∧ ∀ o S1 H1, Qd o S1 → Good K M S1 σ H1 → Step M S H S1 H1 → Q o H1
abbrev POD (X : Cx) (e : Option Expr) (t : TOD) : Prop := PO X e (upO X.K t)
theorem pod_none : POD X none dNoPart := PO_imp po_none fun σ H Q ⟨M, S, Qd, g, q, k⟩ => k none S H q g .refl
theorem pod_some {e : Expr} {t : TD} (h : PD X e t) : POD X (some e) (dPart t) := by
  refine PO_imp (po_some h) ?_
  rintro σ H Q ⟨M, S, Qd, g, q, k⟩
  refine ⟨M, S, _, g, q, fun x S1 v H1 h1 g1 s1 => ?_⟩
  split at h1
  · next i => exact ⟨i, g1.int, k _ S1 H1 h1 g1.drop (s1.less drop_sub)⟩
  · exact h1.elim
theorem pd_sl {e : Expr} {lo hi : Option Expr} {tl th : TOD} (ha : PD X e ta) (hl : POD X lo tl) (hu : POD X hi th) : PD X (.Subscript e (.Slice lo hi none p2) pos) (dSl ta tl th) := by
  refine PE_imp (pe_slice sl_list ha hl hu) ?_
  rintro σ H Q ⟨M, S, Qd, g, q, k⟩
  refine ⟨M, S, _, g, q, fun t S1 v H1 h1 g1 s1 => ⟨_, S1, _, g1.apart, h1.2, fun l S2 H2 h2 g2 s2 => ?_⟩⟩
  obtain ⟨j1, j2⟩ := g1.join g2 s2
  refine ⟨_, S2, _, j1.apart, h2, fun u S3 H3 h3 g3 s3 => ?_⟩
  obtain ⟨i1, i2⟩ := j1.join g3 s3
  have i1' : Good X.K M (([t] : List T).map some ++ S3) (([v] : List V).map some ++ σ) H3 := i1
  obtain ⟨g4, hd⟩ := i1'.thaw rfl (by simp [plnL, h1.1])
  simp only [frzL] at hd
  cases hd with
  | cons d1 _ =>
    split at h3
    · next ds e1 =>
      rw [e1] at d1
      cases d1 with
      | @lst a0 xs0 _ q1 r1 =>
        have un : ∀ {a xs}, SqL X.K (hidS M S3 H3) a xs → SqL X.K H3 a xs := fun h => by
          rcases h with h | h
          · rcases h with h | ⟨o, h⟩
            · exact .inl (.inl (hide_some.mp h).2)
            · exact .inl (.inr ⟨o, (hide_some.mp h).2⟩)
          · exact .inr h
        refine ⟨_, _, rfl, un q1, fun p hp => ?_⟩
        have r2 : DpAll X.K (hidS M S3 H3) (cutV xs0 l u) (cutD ds l u) := by
          unfold cutV cutD
          rw [dpAll_len r1]
          exact dpAll_take _ (dpAll_drop _ r1)
        obtain ⟨y1, y2⟩ := new_list g4 r2 hp
        exact k _ S3 _ _ (h3 p) y1 (((s1.trans j2).trans i2).less (fun c hc => by
          simp only [ownsS, List.mem_append]
          exact .inr hc) |>.trans y2)
    · exact h3.elim
end
theorem cutD_to (ds : List PyData) (k : Nat) : cutD ds none (some (k : Int)) = ds.take k := by
  unfold cutD
  rw [HT.sIx_nat, HT.sIx_none, List.drop_zero, Nat.sub_zero]
  by_cases h : k ≤ ds.length
  · rw [Nat.min_eq_left h]
  · rw [Nat.min_eq_right (by omega), List.take_length, List.take_of_length_le (by omega)]
theorem cutD_from (ds : List PyData) (k : Nat) : cutD ds (some ((k : Int) + 1)) none = ds.drop (k + 1) := by
  unfold cutD
  rw [show ((k : Int) + 1) = ((k + 1 : Nat) : Int) by omega, HT.sIx_nat, HT.sIx_none]
  by_cases h : k + 1 ≤ ds.length
  · rw [Nat.min_eq_left h, List.take_of_length_le (by simp)]
  · rw [Nat.min_eq_right (by omega), List.drop_length, List.drop_of_length_le (by omega)]
    simp
theorem plnL_T : ∀ ds : List PyData, plnL (ds.map T.dat) = true
  | [] => rfl
  | d :: ds => by simp [plnL, T.pln, plnL_T ds]
theorem frzL_T : ∀ ds : List PyData, frzL (ds.map T.dat) = ds
  | [] => rfl
  | d :: ds => by simp [frzL, T.frz, frzL_T ds]
end DL
namespace DL
open PySem L2

/-! ### 29. x is None, x is not None: nothing is frozen -/
def tN : T → Option Bool
  | .dat d => some (isNone d)
  | .node _ _ _ => some false
  | .any => none
def dIsN (i : Nat) : TTD := fun S Q => match S[i]? with
  | some (some t) => (match tN t with
    | some b => Q b S
    | none => False)
  | _ => False
def dNotN (i : Nat) : TTD := fun S Q => match S[i]? with
  | some (some t) => (match tN t with
    | some b => Q (!b) S
    | none => False)
  | _ => False
theorem tN_ok {K : PySem.W.Frag} {M : Addr → Prop} {S : SS} {σ : St} {H : Hp} {t : T} {v : V} {b : Bool} (g : Good K M (some t :: S) (some v :: σ) H) (h : tN t = some b) : decide (v = .non) = b := by
  obtain ⟨⟨y, ey, hy⟩, _⟩ := g.sl
  cases ey
  cases t with
  | any => simp [tN] at h
  | dat d =>
    simp only [tN, Option.some.injEq] at h
    subst h
    simp only [T.holds] at hy
    exact isNone_dp hy
  | node sh a ts =>
    simp only [tN, Option.some.injEq] at h
    subst h
    simp only [T.holds] at hy
    obtain ⟨rfl, _⟩ := hy
    rfl
section
variable {X : Cx}
theorem ptd_isN (i : Nat) {x : Str} {p pos : Pos} {j} {p2 : Pos} (hN : X.N[i]? = some x := by rfl) (hv : Vis X.env.scope x := by first | exact Or.inl rfl | exact Or.inr (Or.inl rfl) | exact Or.inr (Or.inr rfl)) (hd : (x == ("__debug__" : Str)) = false := by decide)
    (hcd : (x == ("__classdict__" : Str)) = false := by decide) (hm : behindInMarks .Is (.Constant .none j p2) = false := by first | exact nobehind _ (by decide) (by decide) | rfl) : PTD X (.Compare (.Name x p) [.Is] [.Constant .none j p2] pos) (dIsN i) := by
  refine PT_imp (pt_cmpR op_isN (pe_var hN hv hd hcd) pe_non hm) ?_
  rintro σ H Q ⟨M, S, Qd, g, q, k⟩
  unfold dIsN at q
  split at q
  · next t e =>
    split at q
    · next b eb =>
      obtain ⟨v, e1, g1⟩ := g.take e
      exact ⟨v, e1, rfl, _, rfl, by rw [tN_ok g1 eb]; exact k _ _ _ q g .refl⟩
    · exact q.elim
  · exact q.elim
theorem ptd_notN (i : Nat) {x : Str} {p pos : Pos} {j} {p2 : Pos} (hN : X.N[i]? = some x := by rfl) (hv : Vis X.env.scope x := by first | exact Or.inl rfl | exact Or.inr (Or.inl rfl) | exact Or.inr (Or.inr rfl)) (hd : (x == ("__debug__" : Str)) = false := by decide)
    (hcd : (x == ("__classdict__" : Str)) = false := by decide) (hm : behindInMarks .IsNot (.Constant .none j p2) = false := by first | exact nobehind _ (by decide) (by decide) | rfl) : PTD X (.Compare (.Name x p) [.IsNot] [.Constant .none j p2] pos) (dNotN i) := by
  refine PT_imp (pt_cmpR op_notN (pe_var hN hv hd hcd) pe_non hm) ?_
  rintro σ H Q ⟨M, S, Qd, g, q, k⟩
  unfold dNotN at q
  split at q
  · next t e =>
    split at q
    · next b eb =>
      obtain ⟨v, e1, g1⟩ := g.take e
      exact ⟨v, e1, rfl, _, rfl, by rw [tN_ok g1 eb]; exact k _ _ _ q g .refl⟩
    · exact q.elim
  · exact q.elim
end
theorem enumD_rngN {α : Type} (enc : α → PyData) (z : α) : ∀ (xs : List α) (n : Nat), enumD n (xs.map enc) = (List.range xs.length).map fun j => .tuple [.int ((n + j : Nat) : Int), enc (xs.getD j z)]
  | [], n => rfl
  | x :: xs, n => by
    rw [List.map_cons, List.length_cons, List.range_succ_eq_map, List.map_cons, List.map_map]
    show PyData.tuple [.int (n : Int), enc x] :: enumD (n + 1) (xs.map enc) = _
    rw [enumD_rngN enc z xs (n + 1)]
    have e2 : (List.range xs.length).map (fun j => PyData.tuple [.int ((n + 1 + j : Nat) : Int), enc (xs.getD j z)]) = (List.range xs.length).map ((fun j => PyData.tuple [.int ((n + j : Nat) : Int), enc ((x :: xs).getD j z)]) ∘ Nat.succ) := List.map_congr_left fun j _ => by
      simp only [Function.comp_def, List.getD_cons_succ, Nat.succ_eq_add_one]
      rw [show n + 1 + j = n + (j + 1) by omega]
    rw [e2]
    simp
theorem enumD_rng {α : Type} (enc : α → PyData) (z : α) (xs : List α) : enumD 0 (xs.map enc) = (List.range xs.length).map fun j => .tuple [.int (j : Int), enc (xs.getD j z)] := by
  have := enumD_rngN enc z xs 0
  simpa using this
end DL
namespace DL
open PySem L2

/-! ### 30. list(xs): a new list of what a list or tuple holds -/
def dListOf (ta : TD) : TD := fun S Q => ta S fun x S1 => x.pln = true ∧ match x.frz with
  | .list ds => ∀ p, Q (.node .lst p (ds.map T.dat)) S1
  | .tuple ds => ∀ p, Q (.node .lst p (ds.map T.dat)) S1
  | _ => False
section
variable {X : Cx} {e : Expr} {ta : TD} {p pos : Pos}
theorem pd_list (hg : Gl X "list") (hm : X.mg "list" = none) (ha : PD X e ta) (hv : bootBuiltins "list" = some (.type "list") := by decide +kernel) (he : starEach [e] X.env = (false, eval e X.env) :: starEach [] X.env := by rfl) (hpl : (backTo pos (starEach [] X.env)).any (·.1) = false := by rfl) :
    PD X (.Call (.Name "list" p) [e] [] pos) (dListOf ta) := by
  refine PE_imp (pe_callTy call_list_of hg hm hv (pad_cons ha pad_nil he) (he := he) (hpl := hpl)) ?_
  rintro σ H Q ⟨M, S, Qd, g, q, k⟩
  refine ⟨M, S, fun ts S1 => ∃ x, ts = [x] ∧ x.pln = true ∧ (match x.frz with
    | .list ds => ∀ p, Qd (.node .lst p (ds.map T.dat)) S1
    | .tuple ds => ∀ p, Qd (.node .lst p (ds.map T.dat)) S1
    | _ => False), g, ?_, ?_⟩
  · have mono : ∀ {Q1 Q2 : T → SS → Prop}, (∀ t S, Q1 t S → Q2 t S) → True := fun _ => trivial
    simp only [dCons, dNil]
    simpa [dListOf] using q
  · rintro ts S1 vs H1 ⟨x, rfl, hp, h1⟩ hl g1 s1
    have g1' := g1
    obtain ⟨g2, hd⟩ := g1.thaw hl (by simp [plnL, hp])
    simp only [frzL] at hd
    have s0 : Step M S H S1 H1 := s1.less fun c hc => by
      simp only [List.map_cons, List.map_nil, List.cons_append, List.nil_append, ownsS, List.mem_append]
      exact .inr hc
    cases hd with
    | cons d1 d0 =>
      cases d0
      split at h1
      · next ds e1 =>
        rw [e1] at d1
        cases d1 with
        | @lst a0 xs0 _ q1 r1 =>
          have un : SqL X.K H1 a0 xs0 := by
            rcases q1 with h | h
            · rcases h with h | ⟨o, h⟩
              · exact .inl (.inl (hide_some.mp h).2)
              · exact .inl (.inr ⟨o, (hide_some.mp h).2⟩)
            · exact .inr h
          refine ⟨_, _, rfl, .inl un, fun p hp => ?_⟩
          obtain ⟨y1, y2⟩ := new_list g2 r1 hp
          exact k _ S1 _ _ (h1 p) y1 (s0.trans y2)
      · next ds e1 =>
        rw [e1] at d1
        cases d1 with
        | @tup a0 xs0 _ q1 r1 =>
          have un : SqT X.K H1 a0 xs0 := by
            rcases q1 with h | h
            · rcases h with h | ⟨o, h⟩
              · exact .inl (.inl (hide_some.mp h).2)
              · exact .inl (.inr ⟨o, (hide_some.mp h).2⟩)
            · exact .inr h
          refine ⟨_, _, rfl, .inr un, fun p hp => ?_⟩
          obtain ⟨y1, y2⟩ := new_list g2 r1 hp
          exact k _ S1 _ _ (h1 p) y1 (s0.trans y2)
      · exact h1.elim
end
end DL
namespace Law
open PySem L2 DL
def top (i : Nat) : Stmt := PySem.Challenge.pw_soldrises_k03_whom_a_good_goes_to.main.body.getD i (.Pass ⟨0, 0, 0, 0⟩)
abbrev s_is_whole : Stmt := top 11
theorem sc_is_whole : FnScope ["thing", "least", "most"] ["thing", "least", "most"] (defScope s_is_whole) := ⟨rfl, rfl, rfl, by decide +kernel, rfl, by decide +kernel, by decide +kernel⟩
abbrev s_is_list : Stmt := top 12
theorem sc_is_list : FnScope ["thing", "least", "most"] ["thing", "least", "most"] (defScope s_is_list) := ⟨rfl, rfl, rfl, by decide +kernel, rfl, by decide +kernel, by decide +kernel⟩
abbrev s_is_good : Stmt := top 13
theorem sc_is_good : FnScope ["thing", "up", "down", "start"] ["thing"] (defScope s_is_good) := ⟨rfl, rfl, rfl, by decide +kernel, rfl, by decide +kernel, by decide +kernel⟩
abbrev s_is_goods : Stmt := top 14
theorem sc_is_goods : FnScope ["thing", "one"] ["thing"] (defScope s_is_goods) := ⟨rfl, rfl, rfl, by decide +kernel, rfl, by decide +kernel, by decide +kernel⟩
abbrev s_is_buyer : Stmt := top 15
theorem sc_is_buyer : FnScope ["thing", "many", "worth"] ["thing", "many"] (defScope s_is_buyer) := ⟨rfl, rfl, rfl, by decide +kernel, rfl, by decide +kernel, by decide +kernel⟩
abbrev s_is_market : Stmt := top 16
theorem sc_is_market : FnScope ["thing", "goods", "days", "buyer"] ["thing"] (defScope s_is_market) := ⟨rfl, rfl, rfl, by decide +kernel, rfl, by decide +kernel, by decide +kernel⟩
abbrev s_need_market : Stmt := top 17
theorem sc_need_market : FnScope ["market"] ["market"] (defScope s_need_market) := ⟨rfl, rfl, rfl, by decide +kernel, rfl, by decide +kernel, by decide +kernel⟩
abbrev s_is_prices : Stmt := top 18
theorem sc_is_prices : FnScope ["thing", "many", "price"] ["thing", "many"] (defScope s_is_prices) := ⟨rfl, rfl, rfl, by decide +kernel, rfl, by decide +kernel, by decide +kernel⟩
abbrev s_need_prices : Stmt := top 19
theorem sc_need_prices : FnScope ["market", "prices"] ["market", "prices"] (defScope s_need_prices) := ⟨rfl, rfl, rfl, by decide +kernel, rfl, by decide +kernel, by decide +kernel⟩
abbrev s_need_day : Stmt := top 20
theorem sc_need_day : FnScope ["day", "most"] ["day", "most"] (defScope s_need_day) := ⟨rfl, rfl, rfl, by decide +kernel, rfl, by decide +kernel, by decide +kernel⟩
abbrev s_taken : Stmt := top 21
theorem sc_taken : FnScope ["buyer", "prices", "found", "best", "good", "worth"] ["buyer", "prices"] (defScope s_taken) := ⟨rfl, rfl, rfl, by decide +kernel, rfl, by decide +kernel, by decide +kernel⟩
abbrev s_buyer_of : Stmt := top 22
theorem sc_buyer_of : FnScope ["market", "day"] ["market", "day"] (defScope s_buyer_of) := ⟨rfl, rfl, rfl, by decide +kernel, rfl, by decide +kernel, by decide +kernel⟩
abbrev s_take_of : Stmt := top 23
theorem sc_take_of : FnScope ["market", "prices", "day"] ["market", "prices", "day"] (defScope s_take_of) := ⟨rfl, rfl, rfl, by decide +kernel, rfl, by decide +kernel, by decide +kernel⟩
abbrev s_law_till : Stmt := top 25
theorem sc_law_till : FnScope ["script", "k", "cell"] ["script", "k"] (defScope s_law_till) := ⟨rfl, rfl, rfl, by decide +kernel, rfl, by decide +kernel, by decide +kernel⟩
abbrev s_law_pull : Stmt := top 26
theorem sc_law_pull : FnScope ["till", "many", "found", "stirred"] ["till", "many"] (defScope s_law_pull) := ⟨rfl, rfl, rfl, by decide +kernel, rfl, by decide +kernel, by decide +kernel⟩
abbrev s_law_near : Stmt := top 27
theorem sc_law_near : FnScope ["till", "about"] ["till"] (defScope s_law_near) := ⟨rfl, rfl, rfl, by decide +kernel, rfl, by decide +kernel, by decide +kernel⟩
abbrev s_law_buyer : Stmt := top 28
theorem sc_law_buyer : FnScope ["till", "many", "worths", "ware"] ["till", "many"] (defScope s_law_buyer) := ⟨rfl, rfl, rfl, by decide +kernel, rfl, by decide +kernel, by decide +kernel⟩
abbrev s_law_market : Stmt := top 29
theorem sc_law_market : FnScope ["till", "full", "goods", "ware", "turn"] ["till"] (defScope s_law_market) := ⟨rfl, rfl, rfl, by decide +kernel, rfl, by decide +kernel, by decide +kernel⟩
abbrev s_law_take : Stmt := top 30
theorem sc_law_take : FnScope ["who", "tags", "found", "best", "ware"] ["who", "tags"] (defScope s_law_take) := ⟨rfl, rfl, rfl, by decide +kernel, rfl, by decide +kernel, by decide +kernel⟩
abbrev s_law_tags : Stmt := top 31
theorem sc_law_tags : FnScope ["till", "buyer", "many", "found", "way", "ware", "worth", "some"] ["till", "buyer", "many"] (defScope s_law_tags) := ⟨rfl, rfl, rfl, by decide +kernel, rfl, by decide +kernel, by decide +kernel⟩
abbrev s_law_same : Stmt := top 32
theorem sc_law_same : FnScope ["found", "due", "k"] ["found", "due"] (defScope s_law_same) := ⟨rfl, rfl, rfl, by decide +kernel, rfl, by decide +kernel, by decide +kernel⟩
abbrev s_law : Stmt := top 33
theorem sc_law : FnScope ["script", "k", "till", "mart", "goods", "days", "at", "turn", "rounds", "far", "tags", "words", "due", "first", "again"] ["script"] (defScope s_law) := ⟨rfl, rfl, rfl, by decide +kernel, rfl, by decide +kernel, by decide +kernel⟩
structure Ad where
  a_is_whole : Addr
  d_is_whole : FuncData
  a_is_list : Addr
  d_is_list : FuncData
  a_is_good : Addr
  d_is_good : FuncData
  a_is_goods : Addr
  d_is_goods : FuncData
  a_is_buyer : Addr
  d_is_buyer : FuncData
  a_is_market : Addr
  d_is_market : FuncData
  a_need_market : Addr
  d_need_market : FuncData
  a_is_prices : Addr
  d_is_prices : FuncData
  a_need_prices : Addr
  d_need_prices : FuncData
  a_need_day : Addr
  d_need_day : FuncData
  a_taken : Addr
  d_taken : FuncData
  a_buyer_of : Addr
  d_buyer_of : FuncData
  a_take_of : Addr
  d_take_of : FuncData
  a_law_till : Addr
  d_law_till : FuncData
  a_law_pull : Addr
  d_law_pull : FuncData
  a_law_near : Addr
  d_law_near : FuncData
  a_law_buyer : Addr
  d_law_buyer : FuncData
  a_law_market : Addr
  d_law_market : FuncData
  a_law_take : Addr
  d_law_take : FuncData
  a_law_tags : Addr
  d_law_tags : FuncData
  a_law_same : Addr
  d_law_same : FuncData
structure Txt (K : PySem.W.Frag) (mg : Str → Option Value) (A : Ad) : Prop where
  F_is_whole : FnT K mg "is_whole" s_is_whole [.non, .non] [] A.a_is_whole A.d_is_whole
  F_is_list : FnT K mg "is_list" s_is_list [] [] A.a_is_list A.d_is_list
  F_is_good : FnT K mg "is_good" s_is_good [] [] A.a_is_good A.d_is_good
  F_is_goods : FnT K mg "is_goods" s_is_goods [] [] A.a_is_goods A.d_is_goods
  F_is_buyer : FnT K mg "is_buyer" s_is_buyer [] [] A.a_is_buyer A.d_is_buyer
  F_is_market : FnT K mg "is_market" s_is_market [] [] A.a_is_market A.d_is_market
  F_need_market : FnT K mg "need_market" s_need_market [] [] A.a_need_market A.d_need_market
  F_is_prices : FnT K mg "is_prices" s_is_prices [] [] A.a_is_prices A.d_is_prices
  F_need_prices : FnT K mg "need_prices" s_need_prices [] [] A.a_need_prices A.d_need_prices
  F_need_day : FnT K mg "need_day" s_need_day [.non] [] A.a_need_day A.d_need_day
  F_taken : FnT K mg "taken" s_taken [] [] A.a_taken A.d_taken
  F_buyer_of : FnT K mg "buyer_of" s_buyer_of [] [] A.a_buyer_of A.d_buyer_of
  F_take_of : FnT K mg "take_of" s_take_of [] [("day", (.int (0)))] A.a_take_of A.d_take_of
  F_law_till : FnT K mg "_law_till" s_law_till [] [] A.a_law_till A.d_law_till
  F_law_pull : FnT K mg "_law_pull" s_law_pull [] [] A.a_law_pull A.d_law_pull
  F_law_near : FnT K mg "_law_near" s_law_near [] [] A.a_law_near A.d_law_near
  F_law_buyer : FnT K mg "_law_buyer" s_law_buyer [] [] A.a_law_buyer A.d_law_buyer
  F_law_market : FnT K mg "_law_market" s_law_market [] [] A.a_law_market A.d_law_market
  F_law_take : FnT K mg "_law_take" s_law_take [] [] A.a_law_take A.d_law_take
  F_law_tags : FnT K mg "_law_tags" s_law_tags [] [] A.a_law_tags A.d_law_tags
  F_law_same : FnT K mg "_law_same" s_law_same [] [] A.a_law_same A.d_law_same
  n_all : mg "all" = none
  n_bool : mg "bool" = none
  n_enumerate : mg "enumerate" = none
  n_int : mg "int" = none
  n_isinstance : mg "isinstance" = none
  n_len : mg "len" = none
  n_list : mg "list" = none
  n_max : mg "max" = none
  n_min : mg "min" = none
  n_range : mg "range" = none
  n_repr : mg "repr" = none
  n_tuple : mg "tuple" = none
  c_MOST_DAYS : ∃ u, mg "MOST_DAYS" = some u ∧ RelV (.int (6)) u
  c_MOST_GOODS : ∃ u, mg "MOST_GOODS" = some u ∧ RelV (.int (4)) u
  c_MOST_PRICE : ∃ u, mg "MOST_PRICE" = some u ∧ RelV (.int (1000000)) u
  c_MOST_STEP : ∃ u, mg "MOST_STEP" = some u ∧ RelV (.int (4)) u
  c_MOST_WORTH : ∃ u, mg "MOST_WORTH" = some u ∧ RelV (.int (99)) u
section
variable {P : Program} {w : World} {K : PySem.W.Frag} {mg : Str → Option Value} {base : Heap} {A : Ad}
theorem b_is_list (tx : Txt K mg A) : Binds K A.d_is_list ["thing", "least", "most"] [] := tx.F_is_list.F.bindsN fun _ _ _ _ _ _ us hl => match us, hl with | [_, _, _], _ => rfl
theorem b_is_good (tx : Txt K mg A) : Binds K A.d_is_good ["thing"] [] := tx.F_is_good.F.bindsN fun _ _ _ _ _ _ us hl => match us, hl with | [_], _ => rfl
theorem b_is_goods (tx : Txt K mg A) : Binds K A.d_is_goods ["thing"] [] := tx.F_is_goods.F.bindsN fun _ _ _ _ _ _ us hl => match us, hl with | [_], _ => rfl
theorem b_is_buyer (tx : Txt K mg A) : Binds K A.d_is_buyer ["thing", "many"] [] := tx.F_is_buyer.F.bindsN fun _ _ _ _ _ _ us hl => match us, hl with | [_, _], _ => rfl
theorem b_is_market (tx : Txt K mg A) : Binds K A.d_is_market ["thing"] [] := tx.F_is_market.F.bindsN fun _ _ _ _ _ _ us hl => match us, hl with | [_], _ => rfl
theorem b_need_market (tx : Txt K mg A) : Binds K A.d_need_market ["market"] [] := tx.F_need_market.F.bindsN fun _ _ _ _ _ _ us hl => match us, hl with | [_], _ => rfl
theorem b_is_prices (tx : Txt K mg A) : Binds K A.d_is_prices ["thing", "many"] [] := tx.F_is_prices.F.bindsN fun _ _ _ _ _ _ us hl => match us, hl with | [_, _], _ => rfl
theorem b_need_prices (tx : Txt K mg A) : Binds K A.d_need_prices ["market", "prices"] [] := tx.F_need_prices.F.bindsN fun _ _ _ _ _ _ us hl => match us, hl with | [_, _], _ => rfl
theorem b_taken (tx : Txt K mg A) : Binds K A.d_taken ["buyer", "prices"] [] := tx.F_taken.F.bindsN fun _ _ _ _ _ _ us hl => match us, hl with | [_, _], _ => rfl
theorem b_buyer_of (tx : Txt K mg A) : Binds K A.d_buyer_of ["market", "day"] [] := tx.F_buyer_of.F.bindsN fun _ _ _ _ _ _ us hl => match us, hl with | [_, _], _ => rfl
theorem b_law_till (tx : Txt K mg A) : Binds K A.d_law_till ["script", "k"] [] := tx.F_law_till.F.bindsN fun _ _ _ _ _ _ us hl => match us, hl with | [_, _], _ => rfl
theorem b_law_pull (tx : Txt K mg A) : Binds K A.d_law_pull ["till", "many"] [] := tx.F_law_pull.F.bindsN fun _ _ _ _ _ _ us hl => match us, hl with | [_, _], _ => rfl
theorem b_law_near (tx : Txt K mg A) : Binds K A.d_law_near ["till"] [] := tx.F_law_near.F.bindsN fun _ _ _ _ _ _ us hl => match us, hl with | [_], _ => rfl
theorem b_law_buyer (tx : Txt K mg A) : Binds K A.d_law_buyer ["till", "many"] [] := tx.F_law_buyer.F.bindsN fun _ _ _ _ _ _ us hl => match us, hl with | [_, _], _ => rfl
theorem b_law_market (tx : Txt K mg A) : Binds K A.d_law_market ["till"] [] := tx.F_law_market.F.bindsN fun _ _ _ _ _ _ us hl => match us, hl with | [_], _ => rfl
theorem b_law_take (tx : Txt K mg A) : Binds K A.d_law_take ["who", "tags"] [] := tx.F_law_take.F.bindsN fun _ _ _ _ _ _ us hl => match us, hl with | [_, _], _ => rfl
theorem b_law_tags (tx : Txt K mg A) : Binds K A.d_law_tags ["till", "buyer", "many"] [] := tx.F_law_tags.F.bindsN fun _ _ _ _ _ _ us hl => match us, hl with | [_, _, _], _ => rfl
theorem b_law_same (tx : Txt K mg A) : Binds K A.d_law_same ["found", "due"] [] := tx.F_law_same.F.bindsN fun _ _ _ _ _ _ us hl => match us, hl with | [_, _], _ => rfl
theorem bd_is_whole_3 (tx : Txt K mg A) : ∃ ds, Vals [] ds ∧ Binds K A.d_is_whole ["thing", "least", "most"] ds := tx.F_is_whole.F.binds1 3 2 (by simp) rfl fun _ _ _ _ _ _ _ us its h1 h2 => match us, its, h1, h2 with | [_, _, _], [_, _], _, _ => ⟨_, rfl, rfl⟩
theorem bd_need_day_1 (tx : Txt K mg A) : ∃ ds, Vals [.non] ds ∧ Binds K A.d_need_day ["day", "most"] ds := tx.F_need_day.F.binds1 1 0 (by simp) rfl fun _ _ _ _ _ _ _ us its h1 h2 => match us, its, h1, h2 with | [_], [_], _, _ => ⟨_, rfl, rfl⟩
theorem bd_take_of_2 (tx : Txt K mg A) : ∃ ds, Vals [(.int (0))] ds ∧ Binds K A.d_take_of ["market", "prices", "day"] ds := tx.F_take_of.F.binds0 2 (by simp) rfl fun _ _ _ _ _ _ us ks h1 h2 => match us, ks, h1, h2 with | [_, _], [_], _, _ => ⟨_, _, _, _, _, _, rfl, rfl, rfl⟩
theorem kb_take_of_0_day_prices_market (tx : Txt K mg A) : KBn K A.d_take_of ["market", "prices", "day"] 0 ["day", "prices", "market"] (fun us ws => pick [2, 1, 0] .none (us ++ ws ++ [])) (fun vs zs => pick [2, 1, 0] .non (vs ++ zs ++ [])) := by
  obtain ⟨oc, od, dV, kV, doc, pm, an, cdv, ct, osl, e, lk, hcd, hD, hK⟩ := tx.F_take_of.F.ex
  rw [e]
  rcases hD with ⟨_, rfl⟩ | ⟨z, _⟩
  · exact ⟨fun s us ws _ h1 h2 => match us, ws, h1, h2 with | [], [_, _, _], _, _ => .of_eq rfl, fun r1 r2 => vals_pick ((r1.append r2).append .nil) _⟩
  · exact absurd rfl z
theorem kb_take_of_2_day (tx : Txt K mg A) : KBn K A.d_take_of ["market", "prices", "day"] 2 ["day"] (fun us ws => pick [0, 1, 2] .none (us ++ ws ++ [])) (fun vs zs => pick [0, 1, 2] .non (vs ++ zs ++ [])) := by
  obtain ⟨oc, od, dV, kV, doc, pm, an, cdv, ct, osl, e, lk, hcd, hD, hK⟩ := tx.F_take_of.F.ex
  rw [e]
  rcases hD with ⟨_, rfl⟩ | ⟨z, _⟩
  · exact ⟨fun s us ws _ h1 h2 => match us, ws, h1, h2 with | [_, _], [_], _, _ => .of_eq rfl, fun r1 r2 => vals_pick ((r1.append r2).append .nil) _⟩
  · exact absurd rfl z
/-! ### markets as data -/
structure Mart where
  goods : List (Int × Int × Int)
  days : List (Option (List (Option Int)))
def encO : Option Int → PyData
  | none => .none
  | some i => .int i
def encG (g : Int × Int × Int) : PyData := .tuple [.int g.1, .int g.2.1, .int g.2.2]
def encB (b : List (Option Int)) : PyData := .list (b.map encO)
def encD : Option (List (Option Int)) → PyData
  | none => .none
  | some b => encB b
def encM (m : Mart) : PyData := .tuple [.list (m.goods.map encG), .list (m.days.map encD)]
def WFg (g : Int × Int × Int) : Prop := (1 ≤ g.1 ∧ g.1 ≤ 4) ∧ (1 ≤ g.2.1 ∧ g.2.1 ≤ 4) ∧ -99 ≤ g.2.2 ∧ g.2.2 ≤ 99
def WFb (n : Nat) (b : List (Option Int)) : Prop := b.length = n ∧ ∀ w, some w ∈ b → -99 ≤ w ∧ w ≤ 99
structure WF (m : Mart) : Prop where
  g1 : 1 ≤ m.goods.length
  g4 : m.goods.length ≤ 4
  gs : ∀ g ∈ m.goods, WFg g
  d1 : 1 ≤ m.days.length
  d6 : m.days.length ≤ 6
  ds : ∀ b, some b ∈ m.days → WFb m.goods.length b
theorem sz {n : Nat} (h : n ≤ 100000) : n ≤ sizeLine := Nat.le_trans h (by decide)
theorem all_all (xs : List Bool) : xs.all id = xs.all (fun b => b) := rfl
theorem num_encM {m : Mart} (h : WF m) : num 6 3 (encM m) = true := by
  have h1 := h.g4
  have h2 := h.d6
  simp only [encM, num, numAll, Bool.and_eq_true, decide_eq_true_eq, numAll_iff, List.length_map, List.mem_map, List.length_cons, List.length_nil]
  refine ⟨by omega, ⟨by omega, ?_⟩, ⟨by omega, ?_⟩, trivial⟩
  · rintro _ ⟨g, hg, rfl⟩
    obtain ⟨⟨a1, a2⟩, ⟨a3, a4⟩, a5, a6⟩ := h.gs g hg
    simp only [encG, num, numAll, Bool.and_eq_true, decide_eq_true_eq, List.length_cons, List.length_nil]
    exact ⟨by omega, by omega, by omega, by omega, trivial⟩
  · rintro _ ⟨b, hb, rfl⟩
    cases b with
    | none => rfl
    | some b =>
      obtain ⟨a1, a2⟩ := h.ds b hb
      simp only [encD, encB, num, Bool.and_eq_true, decide_eq_true_eq, numAll_iff, List.length_map, List.mem_map]
      refine ⟨by omega, ?_⟩
      rintro _ ⟨w, hw, rfl⟩
      cases w with
      | none => rfl
      | some w =>
        have := a2 w hw
        simp only [encO, num, decide_eq_true_eq]
        omega
theorem natAbs_lt {i : Int} {k : Nat} (h0 : 0 ≤ i) (h : i < (2 : Int) ^ k) : i.natAbs < 2 ^ k := by
  have e : ((i.natAbs : Nat) : Int) = i := by omega
  have : ((i.natAbs : Nat) : Int) < ((2 ^ k : Nat) : Int) := by rw [e]; simpa using h
  exact Int.ofNat_lt.mp this
theorem pow_ok {i j : Int} (k : Nat) (h0 : 0 ≤ i) (h : i < (2 : Int) ^ k) (hj : 0 ≤ j) (hk : (k : Int) * j ≤ 2 ^ 27) : 0 ≤ j ∧ (Builtin.Int.intBits i : Int) * j ≤ 2 ^ 27 := by
  refine ⟨hj, Int.le_trans (Int.mul_le_mul_of_nonneg_right ?_ hj) hk⟩
  exact Int.ofNat_le.mpr (PyProof.Rows.intBits_le (natAbs_lt h0 h))
theorem mul_ok {i j : Int} (a b : Nat) (h0 : 0 ≤ i) (h : i < (2 : Int) ^ a) (h1 : 0 ≤ j) (h2 : j < (2 : Int) ^ b) (ha : 0 < a := by decide) (hb : 0 < b := by decide) (hk : a + b ≤ 1000000 := by decide) : CMulW i j :=
  wide_mul (natAbs_lt h0 h) (natAbs_lt h1 h2) ha hb hk
theorem div_ok {i j : Int} (b : Nat) (h1 : 0 < j) (h2 : j < (2 : Int) ^ b) (hb : 0 < b := by decide) (hk : b ≤ 9000 := by decide) : CDivW i j :=
  wide_div h1 (natAbs_lt (by omega) h2) hb hk
/-! ### a pool of draws -/
def till (a : Addr) (x y c : Int) : T := .node .lst a [.dat (.int x), .dat (.int y), .dat (.int c)]
def TillB (n x y c : Int) : Prop := 0 ≤ x ∧ (0 ≤ y ∧ y < 10 ^ 44) ∧ 0 ≤ c ∧ c ≤ n
theorem TillB.mono {n m x y c : Int} (h : TillB n x y c) (e : n ≤ m) : TillB m x y c := ⟨h.1, h.2.1, h.2.2.1, Int.le_trans h.2.2.2 e⟩
/-! ### what a buyer takes -/
def tk (l : List (Option Int × Int)) : Nat → Option Int × Int
  | 0 => (none, -1)
  | k + 1 => match l[k]? with
    | some (some w, p) => if w - p > (tk l k).2 then (some (k : Int), w - p) else tk l k
    | _ => tk l k
def takeD (b : Option (List (Option Int))) (ps : List Int) : Option Int := match b with
  | none => none
  | some bs => (tk (bs.zip ps) bs.length).1
def mvP (gs : List (Int × Int × Int)) (ps : List Int) (t : Option Int) (j : Nat) : Int := if t = some (j : Int) then ps.getD j 0 + (gs.getD j (0, 0, 0)).1 else ps.getD j 0 - (gs.getD j (0, 0, 0)).2.1
theorem tk_none {l : List (Option Int × Int)} {k : Nat} {p : Int} (h : l[k]? = some (none, p)) : tk l (k + 1) = tk l k := by simp only [tk, h]
theorem tk_some {l : List (Option Int × Int)} {k : Nat} {w p : Int} (h : l[k]? = some (some w, p)) : tk l (k + 1) = if w - p > (tk l k).2 then (some (k : Int), w - p) else tk l k := by simp only [tk, h]
def bnd : PyData → Bool
  | .none => true
  | .int _ => true
  | _ => false
def wholeD (d lo hi : PyData) : Bool := match d with
  | .int i => (match lo with
    | .int l => decide (l ≤ i)
    | _ => true) && (match hi with
    | .int h => decide (i ≤ h)
    | _ => true)
  | _ => false
def sp_is_whole : FSp := fun As Q => match As with
  | [.dat d, .dat lo, .dat hi] => bnd lo = true ∧ bnd hi = true ∧ Q (.dat (.bool (wholeD d lo hi))) [none, none, none]
  | _ => False
theorem ok_is_whole (tx : Txt K mg A) : FnOk P w K mg base CX0 1 A.a_is_whole A.d_is_whole ["thing", "least", "most"] (spD K 3 sp_is_whole) := by
  refine fn_okD (N := ["thing", "least", "most"]) (k := 0) (sp := sp_is_whole) tx.F_is_whole sc_is_whole ?_
  intro cdv Ar outer s H E hr
  refine Exists.intro _ (And.intro (pssd_cons (psd_if ((pwd_or (ptd_not (ptd_val (pd_isi (pdv 0) (by rfl) tx.n_isinstance (by rfl) tx.n_int (by decide +kernel)))) (pwd_or1 (ptd_val (pd_isi (pdv 0) (by rfl) tx.n_isinstance (by rfl) tx.n_bool (by decide +kernel)))))).pt (pssd_one (psd_ret pd_bl)) pssd_nil) (pssd_one (psd_ret (pd_and (pd_or (pd_cmp od_is (pdv 1) pd_non) (pd_one (pd_cmp od_ge (pdv 0) (pdv 1)))) (pd_one (pd_or (pd_cmp od_is (pdv 2) pd_non) (pd_one (pd_cmp od_le (pdv 0) (pdv 2))))))))) ?_)
  intro As Qd hl h
  unfold sp_is_whole at h
  split at h
  · next d lo hi =>
    obtain ⟨b1, b2, h⟩ := h
    cases d with
    | int i =>
      cases lo <;> simp only [bnd, Bool.false_eq_true] at b1 <;> cases hi <;> simp only [bnd, Bool.false_eq_true] at b2 <;> simp only [dSeq, dNext, dIf, dRet, dRetN, dSet, dDrop, dC, dVar, dMv, dOp, dTest, dTru, dNot, dAnd, dOr, dAndV, dOrV, dNotV, dIfE, dCons, dNil, dLst, dTup, dFrz, dNeg, dChain, dIx, dIxS, dCa, dIsi, dIsi2, dAsg, dgName, dgTup, dgCons, dgNil, dwSeq, dwTup, dwRng1, dwRng2, dwEnum, dwZip, zipD_map, eqv_strS, plnL_T, frzL_T, dListOf, dIsN, dNotN, tN, dCat, dSl, dNoPart, dPart, dFor, dSetIx, dApp, dCall, dCallK, dPar, dOrT, dAndT, dYes, bodyE, keepPs, keepP, addK, subK, mulK, fdivK, modK, powK, ltK, leK, gtK, geK, eqK, neK, isK, isNotK, isNone, ixK, lenK, maxK, minK, absK, intK, strK, isIn_int, isIn_bool, isIn_list, isIn_tuple, isIn_str, truD, DL.T.frz, DL.T.pln, frzL, plnL, List.map_cons, List.map_nil, List.length_cons, List.length_nil, List.replicate_succ, List.replicate_zero, List.cons_append, List.nil_append, List.append_nil, List.getElem?_cons_zero, List.getElem?_cons_succ, List.getElem?_nil, List.set_cons_zero, List.set_cons_succ, List.set_nil, atI_0, atI_1, atI_2, atI_3, atI_4, ixN_0, ixN_1, ixN_2, plnL_dats, frzL_dats, allK_map, anyK_map, sumK_map, eqv_int, eqOk_int, eqOk_none, eqOk_bool, eqOk_str, bkOk, putBack, adr, pick, List.getD_cons_zero, List.getD_cons_succ, redat, wipeD, true_and, and_true, if_true, if_false, ite_true, ite_false, Bool.true_and, Bool.and_true, Bool.false_and, Bool.not_true, Bool.not_false, Option.getD_some] <;> simp [wholeD] at h ⊢
      all_goals first | exact h | (split <;> simp_all)
    | _ => simp [dSeq, dNext, dIf, dRet, dRetN, dSet, dDrop, dC, dVar, dMv, dOp, dTest, dTru, dNot, dAnd, dOr, dAndV, dOrV, dNotV, dIfE, dCons, dNil, dLst, dTup, dFrz, dNeg, dChain, dIx, dIxS, dCa, dIsi, dIsi2, dAsg, dgName, dgTup, dgCons, dgNil, dwSeq, dwTup, dwRng1, dwRng2, dwEnum, dwZip, zipD_map, eqv_strS, plnL_T, frzL_T, dListOf, dIsN, dNotN, tN, dCat, dSl, dNoPart, dPart, dFor, dSetIx, dApp, dCall, dCallK, dPar, dOrT, dAndT, dYes, bodyE, keepPs, keepP, addK, subK, mulK, fdivK, modK, powK, ltK, leK, gtK, geK, eqK, neK, isK, isNotK, isNone, ixK, lenK, maxK, minK, absK, intK, strK, isIn_int, isIn_bool, isIn_list, isIn_tuple, isIn_str, truD, DL.T.frz, DL.T.pln, frzL, plnL, List.map_cons, List.map_nil, List.length_cons, List.length_nil, List.replicate_succ, List.replicate_zero, List.cons_append, List.nil_append, List.append_nil, List.getElem?_cons_zero, List.getElem?_cons_succ, List.getElem?_nil, List.set_cons_zero, List.set_cons_succ, List.set_nil, atI_0, atI_1, atI_2, atI_3, atI_4, ixN_0, ixN_1, ixN_2, plnL_dats, frzL_dats, allK_map, anyK_map, sumK_map, eqv_int, eqOk_int, eqOk_none, eqOk_bool, eqOk_str, bkOk, putBack, adr, pick, List.getD_cons_zero, List.getD_cons_succ, redat, wipeD, true_and, and_true, if_true, if_false, ite_true, ite_false, Bool.true_and, Bool.and_true, Bool.false_and, Bool.not_true, Bool.not_false, Option.getD_some, wholeD] at h ⊢; exact h
  · exact h.elim
def listD (d : PyData) (lo hi : Int) : Bool := match d with
  | .list ds => decide (lo ≤ ds.length) && decide ((ds.length : Int) ≤ hi)
  | _ => false
def sp_is_list : FSp := fun As Q => match As with
  | [.dat d, .dat (.int lo), .dat (.int hi)] => Q (.dat (.bool (listD d lo hi))) [none, none, none]
  | _ => False
theorem ok_is_list (tx : Txt K mg A) : FnOk P w K mg base CX0 1 A.a_is_list A.d_is_list ["thing", "least", "most"] (spD K 3 sp_is_list) := by
  refine fn_okD (N := ["thing", "least", "most"]) (k := 0) (sp := sp_is_list) tx.F_is_list sc_is_list ?_
  intro cdv Ar outer s H E hr
  refine Exists.intro _ (And.intro (pssd_one (psd_ret (pd_and (pd_isi (pdv 0) (by rfl) tx.n_isinstance (by rfl) tx.n_list (by decide +kernel)) (pd_one (pd_chain od_le od_le (pdv 1) (pd_callB ca_len (by rfl) tx.n_len (by decide +kernel) (pad_cons (pdv 0) pad_nil)) (pdv 2)))))) ?_)
  intro As Qd hl h
  unfold sp_is_list at h
  split at h
  · next d lo hi =>
    cases d with
    | list ds =>
      simp only [dSeq, dNext, dIf, dRet, dRetN, dSet, dDrop, dC, dVar, dMv, dOp, dTest, dTru, dNot, dAnd, dOr, dAndV, dOrV, dNotV, dIfE, dCons, dNil, dLst, dTup, dFrz, dNeg, dChain, dIx, dIxS, dCa, dIsi, dIsi2, dAsg, dgName, dgTup, dgCons, dgNil, dwSeq, dwTup, dwRng1, dwRng2, dwEnum, dwZip, zipD_map, eqv_strS, plnL_T, frzL_T, dListOf, dIsN, dNotN, tN, dCat, dSl, dNoPart, dPart, dFor, dSetIx, dApp, dCall, dCallK, dPar, dOrT, dAndT, dYes, bodyE, keepPs, keepP, addK, subK, mulK, fdivK, modK, powK, ltK, leK, gtK, geK, eqK, neK, isK, isNotK, isNone, ixK, lenK, maxK, minK, absK, intK, strK, isIn_int, isIn_bool, isIn_list, isIn_tuple, isIn_str, truD, DL.T.frz, DL.T.pln, frzL, plnL, List.map_cons, List.map_nil, List.length_cons, List.length_nil, List.replicate_succ, List.replicate_zero, List.cons_append, List.nil_append, List.append_nil, List.getElem?_cons_zero, List.getElem?_cons_succ, List.getElem?_nil, List.set_cons_zero, List.set_cons_succ, List.set_nil, atI_0, atI_1, atI_2, atI_3, atI_4, ixN_0, ixN_1, ixN_2, plnL_dats, frzL_dats, allK_map, anyK_map, sumK_map, eqv_int, eqOk_int, eqOk_none, eqOk_bool, eqOk_str, bkOk, putBack, adr, pick, List.getD_cons_zero, List.getD_cons_succ, redat, wipeD, true_and, and_true, if_true, if_false, ite_true, ite_false, Bool.true_and, Bool.and_true, Bool.false_and, Bool.not_true, Bool.not_false, Option.getD_some]
      by_cases h1 : lo ≤ (ds.length : Int) <;> simp [listD, h1] at h ⊢ <;> exact h
    | _ => simp [dSeq, dNext, dIf, dRet, dRetN, dSet, dDrop, dC, dVar, dMv, dOp, dTest, dTru, dNot, dAnd, dOr, dAndV, dOrV, dNotV, dIfE, dCons, dNil, dLst, dTup, dFrz, dNeg, dChain, dIx, dIxS, dCa, dIsi, dIsi2, dAsg, dgName, dgTup, dgCons, dgNil, dwSeq, dwTup, dwRng1, dwRng2, dwEnum, dwZip, zipD_map, eqv_strS, plnL_T, frzL_T, dListOf, dIsN, dNotN, tN, dCat, dSl, dNoPart, dPart, dFor, dSetIx, dApp, dCall, dCallK, dPar, dOrT, dAndT, dYes, bodyE, keepPs, keepP, addK, subK, mulK, fdivK, modK, powK, ltK, leK, gtK, geK, eqK, neK, isK, isNotK, isNone, ixK, lenK, maxK, minK, absK, intK, strK, isIn_int, isIn_bool, isIn_list, isIn_tuple, isIn_str, truD, DL.T.frz, DL.T.pln, frzL, plnL, List.map_cons, List.map_nil, List.length_cons, List.length_nil, List.replicate_succ, List.replicate_zero, List.cons_append, List.nil_append, List.append_nil, List.getElem?_cons_zero, List.getElem?_cons_succ, List.getElem?_nil, List.set_cons_zero, List.set_cons_succ, List.set_nil, atI_0, atI_1, atI_2, atI_3, atI_4, ixN_0, ixN_1, ixN_2, plnL_dats, frzL_dats, allK_map, anyK_map, sumK_map, eqv_int, eqOk_int, eqOk_none, eqOk_bool, eqOk_str, bkOk, putBack, adr, pick, List.getD_cons_zero, List.getD_cons_succ, redat, wipeD, true_and, and_true, if_true, if_false, ite_true, ite_false, Bool.true_and, Bool.and_true, Bool.false_and, Bool.not_true, Bool.not_false, Option.getD_some, listD] at h ⊢; exact h
  · exact h.elim
def goodD : PyData → Bool
  | .tuple [u, d, s] => wholeD u (.int 1) (.int 4) && (wholeD d (.int 1) (.int 4) && wholeD s (.int (-99)) (.int 99))
  | _ => false
def sp_is_good : FSp := fun As Q => match As with
  | [.dat d] => Q (.dat (.bool (goodD d))) [none]
  | _ => False
theorem ok_is_good (tx : Txt K mg A) : FnOk P w K mg base CX0 2 A.a_is_good A.d_is_good ["thing"] (spD K 1 sp_is_good) := by
  refine fn_okD (N := ["thing", "up", "down", "start"]) (k := 1) (sp := sp_is_good) tx.F_is_good sc_is_good ?_
  intro cdv Ar outer s H E hr
  obtain ⟨_, h_bd_is_whole_3⟩ := bd_is_whole_3 tx
  refine Exists.intro _ (And.intro (pssd_cons (psd_if ((pwd_or (ptd_not (ptd_val (pd_isi (pdv 0) (by rfl) tx.n_isinstance (by rfl) tx.n_tuple (by decide +kernel)))) (pwd_or1 (ptd_cmp (od_ne hr.units) (pd_callB ca_len (by rfl) tx.n_len (by decide +kernel) (pad_cons (pdv 0) pad_nil)) pd_int)))).pt (pssd_one (psd_ret pd_bl)) pssd_nil) (pssd_cons (psd_asg (pdv 0) (pgd_tup (n := 3) rfl (pgsd_cons (pgd_name (i := 1) sc_is_good.nd) (pgsd_cons (pgd_name (i := 2) sc_is_good.nd) (pgsd_cons (pgd_name (i := 3) sc_is_good.nd) pgsd_nil))))) (pssd_one (psd_ret (pd_and (pd_call (dv := []) (dvs := []) (ok_is_whole tx) (hr.mono (by decide)) (by rfl) tx.F_is_whole.g tx.F_is_whole.F.kp h_bd_is_whole_3.2 h_bd_is_whole_3.1 rfl [] (pad_cons (pdv 1) (pad_cons pd_int (pad_cons (pd_gc (d := (.int (4))) (by rfl) tx.c_MOST_STEP (by rfl)) pad_nil)))) (pd_and (pd_call (dv := []) (dvs := []) (ok_is_whole tx) (hr.mono (by decide)) (by rfl) tx.F_is_whole.g tx.F_is_whole.F.kp h_bd_is_whole_3.2 h_bd_is_whole_3.1 rfl [] (pad_cons (pdv 2) (pad_cons pd_int (pad_cons (pd_gc (d := (.int (4))) (by rfl) tx.c_MOST_STEP (by rfl)) pad_nil)))) (pd_one (pd_call (dv := []) (dvs := []) (ok_is_whole tx) (hr.mono (by decide)) (by rfl) tx.F_is_whole.g tx.F_is_whole.F.kp h_bd_is_whole_3.2 h_bd_is_whole_3.1 rfl [] (pad_cons (pdv 3) (pad_cons (pd_neg (pd_gc (d := (.int (99))) (by rfl) tx.c_MOST_WORTH (by rfl))) (pad_cons (pd_gc (d := (.int (99))) (by rfl) tx.c_MOST_WORTH (by rfl)) pad_nil))))))))))) ?_)
  intro As Qd hl h
  unfold sp_is_good at h
  split at h
  · next d =>
    cases d with
    | tuple ds =>
      match ds with
      | [u, d, s] =>
        simp only [dSeq, dNext, dIf, dRet, dRetN, dSet, dDrop, dC, dVar, dMv, dOp, dTest, dTru, dNot, dAnd, dOr, dAndV, dOrV, dNotV, dIfE, dCons, dNil, dLst, dTup, dFrz, dNeg, dChain, dIx, dIxS, dCa, dIsi, dIsi2, dAsg, dgName, dgTup, dgCons, dgNil, dwSeq, dwTup, dwRng1, dwRng2, dwEnum, dwZip, zipD_map, eqv_strS, plnL_T, frzL_T, dListOf, dIsN, dNotN, tN, dCat, dSl, dNoPart, dPart, dFor, dSetIx, dApp, dCall, dCallK, dPar, dOrT, dAndT, dYes, bodyE, keepPs, keepP, addK, subK, mulK, fdivK, modK, powK, ltK, leK, gtK, geK, eqK, neK, isK, isNotK, isNone, ixK, lenK, maxK, minK, absK, intK, strK, isIn_int, isIn_bool, isIn_list, isIn_tuple, isIn_str, truD, DL.T.frz, DL.T.pln, frzL, plnL, List.map_cons, List.map_nil, List.length_cons, List.length_nil, List.replicate_succ, List.replicate_zero, List.cons_append, List.nil_append, List.append_nil, List.getElem?_cons_zero, List.getElem?_cons_succ, List.getElem?_nil, List.set_cons_zero, List.set_cons_succ, List.set_nil, atI_0, atI_1, atI_2, atI_3, atI_4, ixN_0, ixN_1, ixN_2, plnL_dats, frzL_dats, allK_map, anyK_map, sumK_map, eqv_int, eqOk_int, eqOk_none, eqOk_bool, eqOk_str, bkOk, putBack, adr, pick, List.getD_cons_zero, List.getD_cons_succ, redat, wipeD, true_and, and_true, if_true, if_false, ite_true, ite_false, Bool.true_and, Bool.and_true, Bool.false_and, Bool.not_true, Bool.not_false, Option.getD_some, sp_is_whole, bnd]
        simp [goodD] at h ⊢
        cases h1 : wholeD u (.int 1) (.int 4) <;> cases h2 : wholeD d (.int 1) (.int 4) <;> simp [h1, h2] at h ⊢ <;> exact h
      | [] => simp [dSeq, dNext, dIf, dRet, dRetN, dSet, dDrop, dC, dVar, dMv, dOp, dTest, dTru, dNot, dAnd, dOr, dAndV, dOrV, dNotV, dIfE, dCons, dNil, dLst, dTup, dFrz, dNeg, dChain, dIx, dIxS, dCa, dIsi, dIsi2, dAsg, dgName, dgTup, dgCons, dgNil, dwSeq, dwTup, dwRng1, dwRng2, dwEnum, dwZip, zipD_map, eqv_strS, plnL_T, frzL_T, dListOf, dIsN, dNotN, tN, dCat, dSl, dNoPart, dPart, dFor, dSetIx, dApp, dCall, dCallK, dPar, dOrT, dAndT, dYes, bodyE, keepPs, keepP, addK, subK, mulK, fdivK, modK, powK, ltK, leK, gtK, geK, eqK, neK, isK, isNotK, isNone, ixK, lenK, maxK, minK, absK, intK, strK, isIn_int, isIn_bool, isIn_list, isIn_tuple, isIn_str, truD, DL.T.frz, DL.T.pln, frzL, plnL, List.map_cons, List.map_nil, List.length_cons, List.length_nil, List.replicate_succ, List.replicate_zero, List.cons_append, List.nil_append, List.append_nil, List.getElem?_cons_zero, List.getElem?_cons_succ, List.getElem?_nil, List.set_cons_zero, List.set_cons_succ, List.set_nil, atI_0, atI_1, atI_2, atI_3, atI_4, ixN_0, ixN_1, ixN_2, plnL_dats, frzL_dats, allK_map, anyK_map, sumK_map, eqv_int, eqOk_int, eqOk_none, eqOk_bool, eqOk_str, bkOk, putBack, adr, pick, List.getD_cons_zero, List.getD_cons_succ, redat, wipeD, true_and, and_true, if_true, if_false, ite_true, ite_false, Bool.true_and, Bool.and_true, Bool.false_and, Bool.not_true, Bool.not_false, Option.getD_some, goodD] at h ⊢; exact h
      | [_] => simp [dSeq, dNext, dIf, dRet, dRetN, dSet, dDrop, dC, dVar, dMv, dOp, dTest, dTru, dNot, dAnd, dOr, dAndV, dOrV, dNotV, dIfE, dCons, dNil, dLst, dTup, dFrz, dNeg, dChain, dIx, dIxS, dCa, dIsi, dIsi2, dAsg, dgName, dgTup, dgCons, dgNil, dwSeq, dwTup, dwRng1, dwRng2, dwEnum, dwZip, zipD_map, eqv_strS, plnL_T, frzL_T, dListOf, dIsN, dNotN, tN, dCat, dSl, dNoPart, dPart, dFor, dSetIx, dApp, dCall, dCallK, dPar, dOrT, dAndT, dYes, bodyE, keepPs, keepP, addK, subK, mulK, fdivK, modK, powK, ltK, leK, gtK, geK, eqK, neK, isK, isNotK, isNone, ixK, lenK, maxK, minK, absK, intK, strK, isIn_int, isIn_bool, isIn_list, isIn_tuple, isIn_str, truD, DL.T.frz, DL.T.pln, frzL, plnL, List.map_cons, List.map_nil, List.length_cons, List.length_nil, List.replicate_succ, List.replicate_zero, List.cons_append, List.nil_append, List.append_nil, List.getElem?_cons_zero, List.getElem?_cons_succ, List.getElem?_nil, List.set_cons_zero, List.set_cons_succ, List.set_nil, atI_0, atI_1, atI_2, atI_3, atI_4, ixN_0, ixN_1, ixN_2, plnL_dats, frzL_dats, allK_map, anyK_map, sumK_map, eqv_int, eqOk_int, eqOk_none, eqOk_bool, eqOk_str, bkOk, putBack, adr, pick, List.getD_cons_zero, List.getD_cons_succ, redat, wipeD, true_and, and_true, if_true, if_false, ite_true, ite_false, Bool.true_and, Bool.and_true, Bool.false_and, Bool.not_true, Bool.not_false, Option.getD_some, goodD] at h ⊢; exact h
      | [_, _] => simp [dSeq, dNext, dIf, dRet, dRetN, dSet, dDrop, dC, dVar, dMv, dOp, dTest, dTru, dNot, dAnd, dOr, dAndV, dOrV, dNotV, dIfE, dCons, dNil, dLst, dTup, dFrz, dNeg, dChain, dIx, dIxS, dCa, dIsi, dIsi2, dAsg, dgName, dgTup, dgCons, dgNil, dwSeq, dwTup, dwRng1, dwRng2, dwEnum, dwZip, zipD_map, eqv_strS, plnL_T, frzL_T, dListOf, dIsN, dNotN, tN, dCat, dSl, dNoPart, dPart, dFor, dSetIx, dApp, dCall, dCallK, dPar, dOrT, dAndT, dYes, bodyE, keepPs, keepP, addK, subK, mulK, fdivK, modK, powK, ltK, leK, gtK, geK, eqK, neK, isK, isNotK, isNone, ixK, lenK, maxK, minK, absK, intK, strK, isIn_int, isIn_bool, isIn_list, isIn_tuple, isIn_str, truD, DL.T.frz, DL.T.pln, frzL, plnL, List.map_cons, List.map_nil, List.length_cons, List.length_nil, List.replicate_succ, List.replicate_zero, List.cons_append, List.nil_append, List.append_nil, List.getElem?_cons_zero, List.getElem?_cons_succ, List.getElem?_nil, List.set_cons_zero, List.set_cons_succ, List.set_nil, atI_0, atI_1, atI_2, atI_3, atI_4, ixN_0, ixN_1, ixN_2, plnL_dats, frzL_dats, allK_map, anyK_map, sumK_map, eqv_int, eqOk_int, eqOk_none, eqOk_bool, eqOk_str, bkOk, putBack, adr, pick, List.getD_cons_zero, List.getD_cons_succ, redat, wipeD, true_and, and_true, if_true, if_false, ite_true, ite_false, Bool.true_and, Bool.and_true, Bool.false_and, Bool.not_true, Bool.not_false, Option.getD_some, goodD] at h ⊢; exact h
      | _ :: _ :: _ :: _ :: l =>
        have e : ¬ ((l.length : Int) + 1 + 1 + 1 + 1 = 3) := by omega
        simp [dSeq, dNext, dIf, dRet, dRetN, dSet, dDrop, dC, dVar, dMv, dOp, dTest, dTru, dNot, dAnd, dOr, dAndV, dOrV, dNotV, dIfE, dCons, dNil, dLst, dTup, dFrz, dNeg, dChain, dIx, dIxS, dCa, dIsi, dIsi2, dAsg, dgName, dgTup, dgCons, dgNil, dwSeq, dwTup, dwRng1, dwRng2, dwEnum, dwZip, zipD_map, eqv_strS, plnL_T, frzL_T, dListOf, dIsN, dNotN, tN, dCat, dSl, dNoPart, dPart, dFor, dSetIx, dApp, dCall, dCallK, dPar, dOrT, dAndT, dYes, bodyE, keepPs, keepP, addK, subK, mulK, fdivK, modK, powK, ltK, leK, gtK, geK, eqK, neK, isK, isNotK, isNone, ixK, lenK, maxK, minK, absK, intK, strK, isIn_int, isIn_bool, isIn_list, isIn_tuple, isIn_str, truD, DL.T.frz, DL.T.pln, frzL, plnL, List.map_cons, List.map_nil, List.length_cons, List.length_nil, List.replicate_succ, List.replicate_zero, List.cons_append, List.nil_append, List.append_nil, List.getElem?_cons_zero, List.getElem?_cons_succ, List.getElem?_nil, List.set_cons_zero, List.set_cons_succ, List.set_nil, atI_0, atI_1, atI_2, atI_3, atI_4, ixN_0, ixN_1, ixN_2, plnL_dats, frzL_dats, allK_map, anyK_map, sumK_map, eqv_int, eqOk_int, eqOk_none, eqOk_bool, eqOk_str, bkOk, putBack, adr, pick, List.getD_cons_zero, List.getD_cons_succ, redat, wipeD, true_and, and_true, if_true, if_false, ite_true, ite_false, Bool.true_and, Bool.and_true, Bool.false_and, Bool.not_true, Bool.not_false, Option.getD_some, goodD, e] at h ⊢
        exact h
    | _ => simp [dSeq, dNext, dIf, dRet, dRetN, dSet, dDrop, dC, dVar, dMv, dOp, dTest, dTru, dNot, dAnd, dOr, dAndV, dOrV, dNotV, dIfE, dCons, dNil, dLst, dTup, dFrz, dNeg, dChain, dIx, dIxS, dCa, dIsi, dIsi2, dAsg, dgName, dgTup, dgCons, dgNil, dwSeq, dwTup, dwRng1, dwRng2, dwEnum, dwZip, zipD_map, eqv_strS, plnL_T, frzL_T, dListOf, dIsN, dNotN, tN, dCat, dSl, dNoPart, dPart, dFor, dSetIx, dApp, dCall, dCallK, dPar, dOrT, dAndT, dYes, bodyE, keepPs, keepP, addK, subK, mulK, fdivK, modK, powK, ltK, leK, gtK, geK, eqK, neK, isK, isNotK, isNone, ixK, lenK, maxK, minK, absK, intK, strK, isIn_int, isIn_bool, isIn_list, isIn_tuple, isIn_str, truD, DL.T.frz, DL.T.pln, frzL, plnL, List.map_cons, List.map_nil, List.length_cons, List.length_nil, List.replicate_succ, List.replicate_zero, List.cons_append, List.nil_append, List.append_nil, List.getElem?_cons_zero, List.getElem?_cons_succ, List.getElem?_nil, List.set_cons_zero, List.set_cons_succ, List.set_nil, atI_0, atI_1, atI_2, atI_3, atI_4, ixN_0, ixN_1, ixN_2, plnL_dats, frzL_dats, allK_map, anyK_map, sumK_map, eqv_int, eqOk_int, eqOk_none, eqOk_bool, eqOk_str, bkOk, putBack, adr, pick, List.getD_cons_zero, List.getD_cons_succ, redat, wipeD, true_and, and_true, if_true, if_false, ite_true, ite_false, Bool.true_and, Bool.and_true, Bool.false_and, Bool.not_true, Bool.not_false, Option.getD_some, goodD] at h ⊢; exact h
  · exact h.elim
def goodsD (d : PyData) : Bool := match d with
  | .list ds => listD d 1 4 && ds.all goodD
  | _ => false
def sp_is_goods : FSp := fun As Q => match As with
  | [.dat d] => Q (.dat (.bool (goodsD d))) [none]
  | _ => False
theorem ok_is_goods (tx : Txt K mg A) : FnOk P w K mg base CX0 3 A.a_is_goods A.d_is_goods ["thing"] (spD K 1 sp_is_goods) := by
  refine fn_okD (N := ["thing", "one"]) (k := 2) (sp := sp_is_goods) tx.F_is_goods sc_is_goods ?_
  intro cdv Ar outer s H E hr
  refine Exists.intro _ (And.intro (pssd_one (psd_ret (pd_and (pd_call (dv := []) (dvs := []) (ok_is_list tx) (hr.mono (by decide)) (by rfl) tx.F_is_list.g tx.F_is_list.F.kp (b_is_list tx) .nil rfl [] (pad_cons (pdv 0) (pad_cons pd_int (pad_cons (pd_gc (d := (.int (4))) (by rfl) tx.c_MOST_GOODS (by rfl)) pad_nil)))) (pd_one (pd_callB (ca_all (by rfl)) (by rfl) tx.n_all (by decide +kernel) (pad_cons (pd_frz (pd_lc (own := [("one", 1)]) rfl sc_is_goods.nd (pid_list (pdv 0)) (blkOk_by (N := ["thing", "one"]) (sc := defScope s_is_goods) (by decide +kernel)) (fun _ _ _ _ _ => (pg_name (i := 1) sc_is_goods.nd rfl (Or.inl rfl))) (link_name (by decide)) (fun _ _ _ _ _ => ptsd_nil) (fun _ _ _ _ _ => (pd_call (dv := []) (dvs := []) (ok_is_good tx) (hr.mono (by decide)) (by rfl) tx.F_is_good.g tx.F_is_good.F.kp (b_is_good tx) .nil rfl [] (pad_cons (pdv 1) pad_nil))))) pad_nil)))))) ?_)
  intro As Qd hl h
  unfold sp_is_goods at h
  split at h
  · next d =>
    cases d with
    | list ds =>
      simp only [dSeq, dNext, dIf, dRet, dRetN, dSet, dDrop, dC, dVar, dMv, dOp, dTest, dTru, dNot, dAnd, dOr, dAndV, dOrV, dNotV, dIfE, dCons, dNil, dLst, dTup, dFrz, dNeg, dChain, dIx, dIxS, dCa, dIsi, dIsi2, dAsg, dgName, dgTup, dgCons, dgNil, dwSeq, dwTup, dwRng1, dwRng2, dwEnum, dwZip, zipD_map, eqv_strS, plnL_T, frzL_T, dListOf, dIsN, dNotN, tN, dCat, dSl, dNoPart, dPart, dFor, dSetIx, dApp, dCall, dCallK, dPar, dOrT, dAndT, dYes, bodyE, keepPs, keepP, addK, subK, mulK, fdivK, modK, powK, ltK, leK, gtK, geK, eqK, neK, isK, isNotK, isNone, ixK, lenK, maxK, minK, absK, intK, strK, isIn_int, isIn_bool, isIn_list, isIn_tuple, isIn_str, truD, DL.T.frz, DL.T.pln, frzL, plnL, List.map_cons, List.map_nil, List.length_cons, List.length_nil, List.replicate_succ, List.replicate_zero, List.cons_append, List.nil_append, List.append_nil, List.getElem?_cons_zero, List.getElem?_cons_succ, List.getElem?_nil, List.set_cons_zero, List.set_cons_succ, List.set_nil, atI_0, atI_1, atI_2, atI_3, atI_4, ixN_0, ixN_1, ixN_2, plnL_dats, frzL_dats, allK_map, anyK_map, sumK_map, eqv_int, eqOk_int, eqOk_none, eqOk_bool, eqOk_str, bkOk, putBack, adr, pick, List.getD_cons_zero, List.getD_cons_succ, redat, wipeD, true_and, and_true, if_true, if_false, ite_true, ite_false, Bool.true_and, Bool.and_true, Bool.false_and, Bool.not_true, Bool.not_false, Option.getD_some, sp_is_list, dLc]
      by_cases h1 : listD (.list ds) 1 4 = true
      · simp only [h1, goodsD, Bool.true_and, if_true] at h ⊢
        have hl : ds.length ≤ 4 := by
          simp only [listD, Bool.and_eq_true, decide_eq_true_eq] at h1
          omega
        refine lc_map (fun d => .bool (goodD d)) ds [] (fun d hd Q hQ => ?_) (sz (by simp; omega)) (fun D => ?_)
        · simp only [dSeq, dNext, dIf, dRet, dRetN, dSet, dDrop, dC, dVar, dMv, dOp, dTest, dTru, dNot, dAnd, dOr, dAndV, dOrV, dNotV, dIfE, dCons, dNil, dLst, dTup, dFrz, dNeg, dChain, dIx, dIxS, dCa, dIsi, dIsi2, dAsg, dgName, dgTup, dgCons, dgNil, dwSeq, dwTup, dwRng1, dwRng2, dwEnum, dwZip, zipD_map, eqv_strS, plnL_T, frzL_T, dListOf, dIsN, dNotN, tN, dCat, dSl, dNoPart, dPart, dFor, dSetIx, dApp, dCall, dCallK, dPar, dOrT, dAndT, dYes, bodyE, keepPs, keepP, addK, subK, mulK, fdivK, modK, powK, ltK, leK, gtK, geK, eqK, neK, isK, isNotK, isNone, ixK, lenK, maxK, minK, absK, intK, strK, isIn_int, isIn_bool, isIn_list, isIn_tuple, isIn_str, truD, DL.T.frz, DL.T.pln, frzL, plnL, List.map_cons, List.map_nil, List.length_cons, List.length_nil, List.replicate_succ, List.replicate_zero, List.cons_append, List.nil_append, List.append_nil, List.getElem?_cons_zero, List.getElem?_cons_succ, List.getElem?_nil, List.set_cons_zero, List.set_cons_succ, List.set_nil, atI_0, atI_1, atI_2, atI_3, atI_4, ixN_0, ixN_1, ixN_2, plnL_dats, frzL_dats, allK_map, anyK_map, sumK_map, eqv_int, eqOk_int, eqOk_none, eqOk_bool, eqOk_str, bkOk, putBack, adr, pick, List.getD_cons_zero, List.getD_cons_succ, redat, wipeD, true_and, and_true, if_true, if_false, ite_true, ite_false, Bool.true_and, Bool.and_true, Bool.false_and, Bool.not_true, Bool.not_false, Option.getD_some, sp_is_good]
          simp
          exact hQ _ rfl
        · simp only [dSeq, dNext, dIf, dRet, dRetN, dSet, dDrop, dC, dVar, dMv, dOp, dTest, dTru, dNot, dAnd, dOr, dAndV, dOrV, dNotV, dIfE, dCons, dNil, dLst, dTup, dFrz, dNeg, dChain, dIx, dIxS, dCa, dIsi, dIsi2, dAsg, dgName, dgTup, dgCons, dgNil, dwSeq, dwTup, dwRng1, dwRng2, dwEnum, dwZip, zipD_map, eqv_strS, plnL_T, frzL_T, dListOf, dIsN, dNotN, tN, dCat, dSl, dNoPart, dPart, dFor, dSetIx, dApp, dCall, dCallK, dPar, dOrT, dAndT, dYes, bodyE, keepPs, keepP, addK, subK, mulK, fdivK, modK, powK, ltK, leK, gtK, geK, eqK, neK, isK, isNotK, isNone, ixK, lenK, maxK, minK, absK, intK, strK, isIn_int, isIn_bool, isIn_list, isIn_tuple, isIn_str, truD, DL.T.frz, DL.T.pln, frzL, plnL, List.map_cons, List.map_nil, List.length_cons, List.length_nil, List.replicate_succ, List.replicate_zero, List.cons_append, List.nil_append, List.append_nil, List.getElem?_cons_zero, List.getElem?_cons_succ, List.getElem?_nil, List.set_cons_zero, List.set_cons_succ, List.set_nil, atI_0, atI_1, atI_2, atI_3, atI_4, ixN_0, ixN_1, ixN_2, plnL_dats, frzL_dats, allK_map, anyK_map, sumK_map, eqv_int, eqOk_int, eqOk_none, eqOk_bool, eqOk_str, bkOk, putBack, adr, pick, List.getD_cons_zero, List.getD_cons_succ, redat, wipeD, true_and, and_true, if_true, if_false, ite_true, ite_false, Bool.true_and, Bool.and_true, Bool.false_and, Bool.not_true, Bool.not_false, Option.getD_some]
          simpa using h
      · simp only [Bool.not_eq_true] at h1
        simp [h1, goodsD] at h ⊢
        exact h
    | _ => simp [dSeq, dNext, dIf, dRet, dRetN, dSet, dDrop, dC, dVar, dMv, dOp, dTest, dTru, dNot, dAnd, dOr, dAndV, dOrV, dNotV, dIfE, dCons, dNil, dLst, dTup, dFrz, dNeg, dChain, dIx, dIxS, dCa, dIsi, dIsi2, dAsg, dgName, dgTup, dgCons, dgNil, dwSeq, dwTup, dwRng1, dwRng2, dwEnum, dwZip, zipD_map, eqv_strS, plnL_T, frzL_T, dListOf, dIsN, dNotN, tN, dCat, dSl, dNoPart, dPart, dFor, dSetIx, dApp, dCall, dCallK, dPar, dOrT, dAndT, dYes, bodyE, keepPs, keepP, addK, subK, mulK, fdivK, modK, powK, ltK, leK, gtK, geK, eqK, neK, isK, isNotK, isNone, ixK, lenK, maxK, minK, absK, intK, strK, isIn_int, isIn_bool, isIn_list, isIn_tuple, isIn_str, truD, DL.T.frz, DL.T.pln, frzL, plnL, List.map_cons, List.map_nil, List.length_cons, List.length_nil, List.replicate_succ, List.replicate_zero, List.cons_append, List.nil_append, List.append_nil, List.getElem?_cons_zero, List.getElem?_cons_succ, List.getElem?_nil, List.set_cons_zero, List.set_cons_succ, List.set_nil, atI_0, atI_1, atI_2, atI_3, atI_4, ixN_0, ixN_1, ixN_2, plnL_dats, frzL_dats, allK_map, anyK_map, sumK_map, eqv_int, eqOk_int, eqOk_none, eqOk_bool, eqOk_str, bkOk, putBack, adr, pick, List.getD_cons_zero, List.getD_cons_succ, redat, wipeD, true_and, and_true, if_true, if_false, ite_true, ite_false, Bool.true_and, Bool.and_true, Bool.false_and, Bool.not_true, Bool.not_false, Option.getD_some, sp_is_list, listD, goodsD] at h ⊢; exact h
  · exact h.elim
def buyerD (d : PyData) (n : Int) : Bool := match d with
  | .list ds => listD d n n && ds.all fun w => isNone w || wholeD w (.int (-99)) (.int 99)
  | _ => false
def sp_is_buyer : FSp := fun As Q => match As with
  | [.dat d, .dat (.int n)] => n ≤ 1000 ∧ Q (.dat (.bool (buyerD d n))) [none, none]
  | _ => False
theorem ok_is_buyer (tx : Txt K mg A) : FnOk P w K mg base CX0 2 A.a_is_buyer A.d_is_buyer ["thing", "many"] (spD K 2 sp_is_buyer) := by
  refine fn_okD (N := ["thing", "many", "worth"]) (k := 1) (sp := sp_is_buyer) tx.F_is_buyer sc_is_buyer ?_
  intro cdv Ar outer s H E hr
  obtain ⟨_, h_bd_is_whole_3⟩ := bd_is_whole_3 tx
  refine Exists.intro _ (And.intro (pssd_cons (psd_if (ptd_not (ptd_val (pd_call (dv := []) (dvs := []) (ok_is_list tx) (hr.mono (by decide)) (by rfl) tx.F_is_list.g tx.F_is_list.F.kp (b_is_list tx) .nil rfl [] (pad_cons (pdv 0) (pad_cons (pdv 1) (pad_cons (pdv 1) pad_nil)))))) (pssd_one (psd_ret pd_bl)) pssd_nil) (pssd_one (psd_ret (pd_callB (ca_all (by rfl)) (by rfl) tx.n_all (by decide +kernel) (pad_cons (pd_frz (pd_lc (own := [("worth", 2)]) rfl sc_is_buyer.nd (pid_list (pdv 0)) (blkOk_by (N := ["thing", "many", "worth"]) (sc := defScope s_is_buyer) (by decide +kernel)) (fun _ _ _ _ _ => (pg_name (i := 2) sc_is_buyer.nd rfl (Or.inl rfl))) (link_name (by decide)) (fun _ _ _ _ _ => ptsd_nil) (fun _ _ _ _ _ => (pd_or (pd_cmp od_is (pdv 2) pd_non) (pd_one (pd_call (dv := []) (dvs := []) (ok_is_whole tx) (hr.mono (by decide)) (by rfl) tx.F_is_whole.g tx.F_is_whole.F.kp h_bd_is_whole_3.2 h_bd_is_whole_3.1 rfl [] (pad_cons (pdv 2) (pad_cons (pd_neg (pd_gc (d := (.int (99))) (by rfl) tx.c_MOST_WORTH (by rfl))) (pad_cons (pd_gc (d := (.int (99))) (by rfl) tx.c_MOST_WORTH (by rfl)) pad_nil))))))))) pad_nil))))) ?_)
  intro As Qd hl h
  unfold sp_is_buyer at h
  split at h
  · next d n =>
    obtain ⟨hn, h⟩ := h
    cases d with
    | list ds =>
      simp only [dSeq, dNext, dIf, dRet, dRetN, dSet, dDrop, dC, dVar, dMv, dOp, dTest, dTru, dNot, dAnd, dOr, dAndV, dOrV, dNotV, dIfE, dCons, dNil, dLst, dTup, dFrz, dNeg, dChain, dIx, dIxS, dCa, dIsi, dIsi2, dAsg, dgName, dgTup, dgCons, dgNil, dwSeq, dwTup, dwRng1, dwRng2, dwEnum, dwZip, zipD_map, eqv_strS, plnL_T, frzL_T, dListOf, dIsN, dNotN, tN, dCat, dSl, dNoPart, dPart, dFor, dSetIx, dApp, dCall, dCallK, dPar, dOrT, dAndT, dYes, bodyE, keepPs, keepP, addK, subK, mulK, fdivK, modK, powK, ltK, leK, gtK, geK, eqK, neK, isK, isNotK, isNone, ixK, lenK, maxK, minK, absK, intK, strK, isIn_int, isIn_bool, isIn_list, isIn_tuple, isIn_str, truD, DL.T.frz, DL.T.pln, frzL, plnL, List.map_cons, List.map_nil, List.length_cons, List.length_nil, List.replicate_succ, List.replicate_zero, List.cons_append, List.nil_append, List.append_nil, List.getElem?_cons_zero, List.getElem?_cons_succ, List.getElem?_nil, List.set_cons_zero, List.set_cons_succ, List.set_nil, atI_0, atI_1, atI_2, atI_3, atI_4, ixN_0, ixN_1, ixN_2, plnL_dats, frzL_dats, allK_map, anyK_map, sumK_map, eqv_int, eqOk_int, eqOk_none, eqOk_bool, eqOk_str, bkOk, putBack, adr, pick, List.getD_cons_zero, List.getD_cons_succ, redat, wipeD, true_and, and_true, if_true, if_false, ite_true, ite_false, Bool.true_and, Bool.and_true, Bool.false_and, Bool.not_true, Bool.not_false, Option.getD_some, sp_is_list, dLc]
      by_cases h1 : listD (.list ds) n n = true
      · simp only [h1, buyerD, Bool.true_and, Bool.not_true, Bool.false_eq_true, if_false, dSeq, dNext, dIf, dRet, dRetN, dSet, dDrop, dC, dVar, dMv, dOp, dTest, dTru, dNot, dAnd, dOr, dAndV, dOrV, dNotV, dIfE, dCons, dNil, dLst, dTup, dFrz, dNeg, dChain, dIx, dIxS, dCa, dIsi, dIsi2, dAsg, dgName, dgTup, dgCons, dgNil, dwSeq, dwTup, dwRng1, dwRng2, dwEnum, dwZip, zipD_map, eqv_strS, plnL_T, frzL_T, dListOf, dIsN, dNotN, tN, dCat, dSl, dNoPart, dPart, dFor, dSetIx, dApp, dCall, dCallK, dPar, dOrT, dAndT, dYes, bodyE, keepPs, keepP, addK, subK, mulK, fdivK, modK, powK, ltK, leK, gtK, geK, eqK, neK, isK, isNotK, isNone, ixK, lenK, maxK, minK, absK, intK, strK, isIn_int, isIn_bool, isIn_list, isIn_tuple, isIn_str, truD, DL.T.frz, DL.T.pln, frzL, plnL, List.map_cons, List.map_nil, List.length_cons, List.length_nil, List.replicate_succ, List.replicate_zero, List.cons_append, List.nil_append, List.append_nil, List.getElem?_cons_zero, List.getElem?_cons_succ, List.getElem?_nil, List.set_cons_zero, List.set_cons_succ, List.set_nil, atI_0, atI_1, atI_2, atI_3, atI_4, ixN_0, ixN_1, ixN_2, plnL_dats, frzL_dats, allK_map, anyK_map, sumK_map, eqv_int, eqOk_int, eqOk_none, eqOk_bool, eqOk_str, bkOk, putBack, adr, pick, List.getD_cons_zero, List.getD_cons_succ, redat, wipeD, true_and, and_true, if_true, if_false, ite_true, ite_false, Bool.true_and, Bool.and_true, Bool.false_and, Bool.not_true, Bool.not_false, Option.getD_some] at h ⊢
        have hl : (ds.length : Int) = n := by
          simp only [listD, Bool.and_eq_true, decide_eq_true_eq] at h1
          omega
        refine lc_map (fun w => .bool (isNone w || wholeD w (.int (-99)) (.int 99))) ds [] (fun d hd Q hQ => ?_) (sz (by simp; omega)) (fun D => ?_)
        · simp only [dSeq, dNext, dIf, dRet, dRetN, dSet, dDrop, dC, dVar, dMv, dOp, dTest, dTru, dNot, dAnd, dOr, dAndV, dOrV, dNotV, dIfE, dCons, dNil, dLst, dTup, dFrz, dNeg, dChain, dIx, dIxS, dCa, dIsi, dIsi2, dAsg, dgName, dgTup, dgCons, dgNil, dwSeq, dwTup, dwRng1, dwRng2, dwEnum, dwZip, zipD_map, eqv_strS, plnL_T, frzL_T, dListOf, dIsN, dNotN, tN, dCat, dSl, dNoPart, dPart, dFor, dSetIx, dApp, dCall, dCallK, dPar, dOrT, dAndT, dYes, bodyE, keepPs, keepP, addK, subK, mulK, fdivK, modK, powK, ltK, leK, gtK, geK, eqK, neK, isK, isNotK, isNone, ixK, lenK, maxK, minK, absK, intK, strK, isIn_int, isIn_bool, isIn_list, isIn_tuple, isIn_str, truD, DL.T.frz, DL.T.pln, frzL, plnL, List.map_cons, List.map_nil, List.length_cons, List.length_nil, List.replicate_succ, List.replicate_zero, List.cons_append, List.nil_append, List.append_nil, List.getElem?_cons_zero, List.getElem?_cons_succ, List.getElem?_nil, List.set_cons_zero, List.set_cons_succ, List.set_nil, atI_0, atI_1, atI_2, atI_3, atI_4, ixN_0, ixN_1, ixN_2, plnL_dats, frzL_dats, allK_map, anyK_map, sumK_map, eqv_int, eqOk_int, eqOk_none, eqOk_bool, eqOk_str, bkOk, putBack, adr, pick, List.getD_cons_zero, List.getD_cons_succ, redat, wipeD, true_and, and_true, if_true, if_false, ite_true, ite_false, Bool.true_and, Bool.and_true, Bool.false_and, Bool.not_true, Bool.not_false, Option.getD_some, sp_is_whole, bnd]
          simp
          cases d <;> simp [dSeq, dNext, dIf, dRet, dRetN, dSet, dDrop, dC, dVar, dMv, dOp, dTest, dTru, dNot, dAnd, dOr, dAndV, dOrV, dNotV, dIfE, dCons, dNil, dLst, dTup, dFrz, dNeg, dChain, dIx, dIxS, dCa, dIsi, dIsi2, dAsg, dgName, dgTup, dgCons, dgNil, dwSeq, dwTup, dwRng1, dwRng2, dwEnum, dwZip, zipD_map, eqv_strS, plnL_T, frzL_T, dListOf, dIsN, dNotN, tN, dCat, dSl, dNoPart, dPart, dFor, dSetIx, dApp, dCall, dCallK, dPar, dOrT, dAndT, dYes, bodyE, keepPs, keepP, addK, subK, mulK, fdivK, modK, powK, ltK, leK, gtK, geK, eqK, neK, isK, isNotK, isNone, ixK, lenK, maxK, minK, absK, intK, strK, isIn_int, isIn_bool, isIn_list, isIn_tuple, isIn_str, truD, DL.T.frz, DL.T.pln, frzL, plnL, List.map_cons, List.map_nil, List.length_cons, List.length_nil, List.replicate_succ, List.replicate_zero, List.cons_append, List.nil_append, List.append_nil, List.getElem?_cons_zero, List.getElem?_cons_succ, List.getElem?_nil, List.set_cons_zero, List.set_cons_succ, List.set_nil, atI_0, atI_1, atI_2, atI_3, atI_4, ixN_0, ixN_1, ixN_2, plnL_dats, frzL_dats, allK_map, anyK_map, sumK_map, eqv_int, eqOk_int, eqOk_none, eqOk_bool, eqOk_str, bkOk, putBack, adr, pick, List.getD_cons_zero, List.getD_cons_succ, redat, wipeD, true_and, and_true, if_true, if_false, ite_true, ite_false, Bool.true_and, Bool.and_true, Bool.false_and, Bool.not_true, Bool.not_false, Option.getD_some] at hQ ⊢ <;> exact hQ _ rfl
        · simp only [dSeq, dNext, dIf, dRet, dRetN, dSet, dDrop, dC, dVar, dMv, dOp, dTest, dTru, dNot, dAnd, dOr, dAndV, dOrV, dNotV, dIfE, dCons, dNil, dLst, dTup, dFrz, dNeg, dChain, dIx, dIxS, dCa, dIsi, dIsi2, dAsg, dgName, dgTup, dgCons, dgNil, dwSeq, dwTup, dwRng1, dwRng2, dwEnum, dwZip, zipD_map, eqv_strS, plnL_T, frzL_T, dListOf, dIsN, dNotN, tN, dCat, dSl, dNoPart, dPart, dFor, dSetIx, dApp, dCall, dCallK, dPar, dOrT, dAndT, dYes, bodyE, keepPs, keepP, addK, subK, mulK, fdivK, modK, powK, ltK, leK, gtK, geK, eqK, neK, isK, isNotK, isNone, ixK, lenK, maxK, minK, absK, intK, strK, isIn_int, isIn_bool, isIn_list, isIn_tuple, isIn_str, truD, DL.T.frz, DL.T.pln, frzL, plnL, List.map_cons, List.map_nil, List.length_cons, List.length_nil, List.replicate_succ, List.replicate_zero, List.cons_append, List.nil_append, List.append_nil, List.getElem?_cons_zero, List.getElem?_cons_succ, List.getElem?_nil, List.set_cons_zero, List.set_cons_succ, List.set_nil, atI_0, atI_1, atI_2, atI_3, atI_4, ixN_0, ixN_1, ixN_2, plnL_dats, frzL_dats, allK_map, anyK_map, sumK_map, eqv_int, eqOk_int, eqOk_none, eqOk_bool, eqOk_str, bkOk, putBack, adr, pick, List.getD_cons_zero, List.getD_cons_succ, redat, wipeD, true_and, and_true, if_true, if_false, ite_true, ite_false, Bool.true_and, Bool.and_true, Bool.false_and, Bool.not_true, Bool.not_false, Option.getD_some]
          simpa using h
      · simp only [Bool.not_eq_true] at h1
        simp [h1, buyerD] at h ⊢
        exact h
    | _ => simp [dSeq, dNext, dIf, dRet, dRetN, dSet, dDrop, dC, dVar, dMv, dOp, dTest, dTru, dNot, dAnd, dOr, dAndV, dOrV, dNotV, dIfE, dCons, dNil, dLst, dTup, dFrz, dNeg, dChain, dIx, dIxS, dCa, dIsi, dIsi2, dAsg, dgName, dgTup, dgCons, dgNil, dwSeq, dwTup, dwRng1, dwRng2, dwEnum, dwZip, zipD_map, eqv_strS, plnL_T, frzL_T, dListOf, dIsN, dNotN, tN, dCat, dSl, dNoPart, dPart, dFor, dSetIx, dApp, dCall, dCallK, dPar, dOrT, dAndT, dYes, bodyE, keepPs, keepP, addK, subK, mulK, fdivK, modK, powK, ltK, leK, gtK, geK, eqK, neK, isK, isNotK, isNone, ixK, lenK, maxK, minK, absK, intK, strK, isIn_int, isIn_bool, isIn_list, isIn_tuple, isIn_str, truD, DL.T.frz, DL.T.pln, frzL, plnL, List.map_cons, List.map_nil, List.length_cons, List.length_nil, List.replicate_succ, List.replicate_zero, List.cons_append, List.nil_append, List.append_nil, List.getElem?_cons_zero, List.getElem?_cons_succ, List.getElem?_nil, List.set_cons_zero, List.set_cons_succ, List.set_nil, atI_0, atI_1, atI_2, atI_3, atI_4, ixN_0, ixN_1, ixN_2, plnL_dats, frzL_dats, allK_map, anyK_map, sumK_map, eqv_int, eqOk_int, eqOk_none, eqOk_bool, eqOk_str, bkOk, putBack, adr, pick, List.getD_cons_zero, List.getD_cons_succ, redat, wipeD, true_and, and_true, if_true, if_false, ite_true, ite_false, Bool.true_and, Bool.and_true, Bool.false_and, Bool.not_true, Bool.not_false, Option.getD_some, sp_is_list, listD, buyerD] at h ⊢; exact h
  · exact h.elim
def marketD : PyData → Bool
  | .tuple [.list gs, .list ds] => goodsD (.list gs) && (listD (.list ds) 1 6 && ds.all fun b => isNone b || buyerD b gs.length)
  | _ => false
def sp_is_market : FSp := fun As Q => match As with
  | [.dat d] => Q (.dat (.bool (marketD d))) [none]
  | _ => False
theorem ok_is_market (tx : Txt K mg A) : FnOk P w K mg base CX0 4 A.a_is_market A.d_is_market ["thing"] (spD K 1 sp_is_market) := by
  refine fn_okD (N := ["thing", "goods", "days", "buyer"]) (k := 3) (sp := sp_is_market) tx.F_is_market sc_is_market ?_
  intro cdv Ar outer s H E hr
  refine Exists.intro _ (And.intro (pssd_cons (psd_if ((pwd_or (ptd_not (ptd_val (pd_isi (pdv 0) (by rfl) tx.n_isinstance (by rfl) tx.n_tuple (by decide +kernel)))) (pwd_or1 (ptd_cmp (od_ne hr.units) (pd_callB ca_len (by rfl) tx.n_len (by decide +kernel) (pad_cons (pdv 0) pad_nil)) pd_int)))).pt (pssd_one (psd_ret pd_bl)) pssd_nil) (pssd_cons (psd_asg (pdv 0) (pgd_tup (n := 2) rfl (pgsd_cons (pgd_name (i := 1) sc_is_market.nd (hx := Or.inr rfl)) (pgsd_cons (pgd_name (i := 2) sc_is_market.nd) pgsd_nil)))) (pssd_cons (psd_if ((pwd_or (ptd_not (ptd_val (pd_call (dv := []) (dvs := []) (ok_is_goods tx) (hr.mono (by decide)) (by rfl) tx.F_is_goods.g tx.F_is_goods.F.kp (b_is_goods tx) .nil rfl [] (pad_cons (pdv 1) pad_nil)))) (pwd_or1 (ptd_not (ptd_val (pd_call (dv := []) (dvs := []) (ok_is_list tx) (hr.mono (by decide)) (by rfl) tx.F_is_list.g tx.F_is_list.F.kp (b_is_list tx) .nil rfl [] (pad_cons (pdv 2) (pad_cons pd_int (pad_cons (pd_gc (d := (.int (6))) (by rfl) tx.c_MOST_DAYS (by rfl)) pad_nil))))))))).pt (pssd_one (psd_ret pd_bl)) pssd_nil) (pssd_one (psd_ret (pd_callB (ca_all (by rfl)) (by rfl) tx.n_all (by decide +kernel) (pad_cons (pd_frz (pd_lc (own := [("buyer", 3)]) rfl sc_is_market.nd (pid_list (pdv 2)) (blkOk_by (N := ["thing", "goods", "days", "buyer"]) (sc := defScope s_is_market) (by decide +kernel)) (fun _ _ _ _ _ => (pg_name (i := 3) sc_is_market.nd rfl (Or.inl rfl))) (link_name (by decide)) (fun _ _ _ _ _ => ptsd_nil) (fun _ _ _ _ _ => (pd_or (pd_cmp od_is (pdv 3) pd_non) (pd_one (pd_call (dv := []) (dvs := []) (ok_is_buyer tx) (hr.mono (by decide)) (by rfl) tx.F_is_buyer.g tx.F_is_buyer.F.kp (b_is_buyer tx) .nil rfl [] (pad_cons (pdv 3) (pad_cons (pd_callB ca_len (by rfl) tx.n_len (by decide +kernel) (pad_cons (pdv 1) pad_nil)) pad_nil)))))))) pad_nil))))))) ?_)
  intro As Qd hl h
  unfold sp_is_market at h
  split at h
  · next d =>
    cases d with
    | tuple xs =>
      match xs with
      | [g, ds] =>
        simp only [dSeq, dNext, dIf, dRet, dRetN, dSet, dDrop, dC, dVar, dMv, dOp, dTest, dTru, dNot, dAnd, dOr, dAndV, dOrV, dNotV, dIfE, dCons, dNil, dLst, dTup, dFrz, dNeg, dChain, dIx, dIxS, dCa, dIsi, dIsi2, dAsg, dgName, dgTup, dgCons, dgNil, dwSeq, dwTup, dwRng1, dwRng2, dwEnum, dwZip, zipD_map, eqv_strS, plnL_T, frzL_T, dListOf, dIsN, dNotN, tN, dCat, dSl, dNoPart, dPart, dFor, dSetIx, dApp, dCall, dCallK, dPar, dOrT, dAndT, dYes, bodyE, keepPs, keepP, addK, subK, mulK, fdivK, modK, powK, ltK, leK, gtK, geK, eqK, neK, isK, isNotK, isNone, ixK, lenK, maxK, minK, absK, intK, strK, isIn_int, isIn_bool, isIn_list, isIn_tuple, isIn_str, truD, DL.T.frz, DL.T.pln, frzL, plnL, List.map_cons, List.map_nil, List.length_cons, List.length_nil, List.replicate_succ, List.replicate_zero, List.cons_append, List.nil_append, List.append_nil, List.getElem?_cons_zero, List.getElem?_cons_succ, List.getElem?_nil, List.set_cons_zero, List.set_cons_succ, List.set_nil, atI_0, atI_1, atI_2, atI_3, atI_4, ixN_0, ixN_1, ixN_2, plnL_dats, frzL_dats, allK_map, anyK_map, sumK_map, eqv_int, eqOk_int, eqOk_none, eqOk_bool, eqOk_str, bkOk, putBack, adr, pick, List.getD_cons_zero, List.getD_cons_succ, redat, wipeD, true_and, and_true, if_true, if_false, ite_true, ite_false, Bool.true_and, Bool.and_true, Bool.false_and, Bool.not_true, Bool.not_false, Option.getD_some, sp_is_goods, sp_is_list, dLc]
        simp
        by_cases hg : goodsD g = true
        · cases g with
          | list gs =>
            simp only [hg, dSeq, dNext, dIf, dRet, dRetN, dSet, dDrop, dC, dVar, dMv, dOp, dTest, dTru, dNot, dAnd, dOr, dAndV, dOrV, dNotV, dIfE, dCons, dNil, dLst, dTup, dFrz, dNeg, dChain, dIx, dIxS, dCa, dIsi, dIsi2, dAsg, dgName, dgTup, dgCons, dgNil, dwSeq, dwTup, dwRng1, dwRng2, dwEnum, dwZip, zipD_map, eqv_strS, plnL_T, frzL_T, dListOf, dIsN, dNotN, tN, dCat, dSl, dNoPart, dPart, dFor, dSetIx, dApp, dCall, dCallK, dPar, dOrT, dAndT, dYes, bodyE, keepPs, keepP, addK, subK, mulK, fdivK, modK, powK, ltK, leK, gtK, geK, eqK, neK, isK, isNotK, isNone, ixK, lenK, maxK, minK, absK, intK, strK, isIn_int, isIn_bool, isIn_list, isIn_tuple, isIn_str, truD, DL.T.frz, DL.T.pln, frzL, plnL, List.map_cons, List.map_nil, List.length_cons, List.length_nil, List.replicate_succ, List.replicate_zero, List.cons_append, List.nil_append, List.append_nil, List.getElem?_cons_zero, List.getElem?_cons_succ, List.getElem?_nil, List.set_cons_zero, List.set_cons_succ, List.set_nil, atI_0, atI_1, atI_2, atI_3, atI_4, ixN_0, ixN_1, ixN_2, plnL_dats, frzL_dats, allK_map, anyK_map, sumK_map, eqv_int, eqOk_int, eqOk_none, eqOk_bool, eqOk_str, bkOk, putBack, adr, pick, List.getD_cons_zero, List.getD_cons_succ, redat, wipeD, true_and, and_true, if_true, if_false, ite_true, ite_false, Bool.true_and, Bool.and_true, Bool.false_and, Bool.not_true, Bool.not_false, Option.getD_some]
            by_cases hd : listD ds 1 6 = true
            · cases ds with
              | list ds =>
                simp only [hg, hd, marketD, dSeq, dNext, dIf, dRet, dRetN, dSet, dDrop, dC, dVar, dMv, dOp, dTest, dTru, dNot, dAnd, dOr, dAndV, dOrV, dNotV, dIfE, dCons, dNil, dLst, dTup, dFrz, dNeg, dChain, dIx, dIxS, dCa, dIsi, dIsi2, dAsg, dgName, dgTup, dgCons, dgNil, dwSeq, dwTup, dwRng1, dwRng2, dwEnum, dwZip, zipD_map, eqv_strS, plnL_T, frzL_T, dListOf, dIsN, dNotN, tN, dCat, dSl, dNoPart, dPart, dFor, dSetIx, dApp, dCall, dCallK, dPar, dOrT, dAndT, dYes, bodyE, keepPs, keepP, addK, subK, mulK, fdivK, modK, powK, ltK, leK, gtK, geK, eqK, neK, isK, isNotK, isNone, ixK, lenK, maxK, minK, absK, intK, strK, isIn_int, isIn_bool, isIn_list, isIn_tuple, isIn_str, truD, DL.T.frz, DL.T.pln, frzL, plnL, List.map_cons, List.map_nil, List.length_cons, List.length_nil, List.replicate_succ, List.replicate_zero, List.cons_append, List.nil_append, List.append_nil, List.getElem?_cons_zero, List.getElem?_cons_succ, List.getElem?_nil, List.set_cons_zero, List.set_cons_succ, List.set_nil, atI_0, atI_1, atI_2, atI_3, atI_4, ixN_0, ixN_1, ixN_2, plnL_dats, frzL_dats, allK_map, anyK_map, sumK_map, eqv_int, eqOk_int, eqOk_none, eqOk_bool, eqOk_str, bkOk, putBack, adr, pick, List.getD_cons_zero, List.getD_cons_succ, redat, wipeD, true_and, and_true, if_true, if_false, ite_true, ite_false, Bool.true_and, Bool.and_true, Bool.false_and, Bool.not_true, Bool.not_false, Option.getD_some] at h ⊢
                have hl : ds.length ≤ 6 := by
                  simp only [listD, Bool.and_eq_true, decide_eq_true_eq] at hd
                  omega
                have hl2 : gs.length ≤ 4 := by
                  simp only [goodsD, listD, Bool.and_eq_true, decide_eq_true_eq] at hg
                  omega
                refine lc_map (fun b => .bool (isNone b || buyerD b gs.length)) ds [] (fun d hd Q hQ => ?_) (sz (by simp; omega)) ?_
                · simp only [dSeq, dNext, dIf, dRet, dRetN, dSet, dDrop, dC, dVar, dMv, dOp, dTest, dTru, dNot, dAnd, dOr, dAndV, dOrV, dNotV, dIfE, dCons, dNil, dLst, dTup, dFrz, dNeg, dChain, dIx, dIxS, dCa, dIsi, dIsi2, dAsg, dgName, dgTup, dgCons, dgNil, dwSeq, dwTup, dwRng1, dwRng2, dwEnum, dwZip, zipD_map, eqv_strS, plnL_T, frzL_T, dListOf, dIsN, dNotN, tN, dCat, dSl, dNoPart, dPart, dFor, dSetIx, dApp, dCall, dCallK, dPar, dOrT, dAndT, dYes, bodyE, keepPs, keepP, addK, subK, mulK, fdivK, modK, powK, ltK, leK, gtK, geK, eqK, neK, isK, isNotK, isNone, ixK, lenK, maxK, minK, absK, intK, strK, isIn_int, isIn_bool, isIn_list, isIn_tuple, isIn_str, truD, DL.T.frz, DL.T.pln, frzL, plnL, List.map_cons, List.map_nil, List.length_cons, List.length_nil, List.replicate_succ, List.replicate_zero, List.cons_append, List.nil_append, List.append_nil, List.getElem?_cons_zero, List.getElem?_cons_succ, List.getElem?_nil, List.set_cons_zero, List.set_cons_succ, List.set_nil, atI_0, atI_1, atI_2, atI_3, atI_4, ixN_0, ixN_1, ixN_2, plnL_dats, frzL_dats, allK_map, anyK_map, sumK_map, eqv_int, eqOk_int, eqOk_none, eqOk_bool, eqOk_str, bkOk, putBack, adr, pick, List.getD_cons_zero, List.getD_cons_succ, redat, wipeD, true_and, and_true, if_true, if_false, ite_true, ite_false, Bool.true_and, Bool.and_true, Bool.false_and, Bool.not_true, Bool.not_false, Option.getD_some, sp_is_buyer]
                  simp
                  cases d <;> simp [dSeq, dNext, dIf, dRet, dRetN, dSet, dDrop, dC, dVar, dMv, dOp, dTest, dTru, dNot, dAnd, dOr, dAndV, dOrV, dNotV, dIfE, dCons, dNil, dLst, dTup, dFrz, dNeg, dChain, dIx, dIxS, dCa, dIsi, dIsi2, dAsg, dgName, dgTup, dgCons, dgNil, dwSeq, dwTup, dwRng1, dwRng2, dwEnum, dwZip, zipD_map, eqv_strS, plnL_T, frzL_T, dListOf, dIsN, dNotN, tN, dCat, dSl, dNoPart, dPart, dFor, dSetIx, dApp, dCall, dCallK, dPar, dOrT, dAndT, dYes, bodyE, keepPs, keepP, addK, subK, mulK, fdivK, modK, powK, ltK, leK, gtK, geK, eqK, neK, isK, isNotK, isNone, ixK, lenK, maxK, minK, absK, intK, strK, isIn_int, isIn_bool, isIn_list, isIn_tuple, isIn_str, truD, DL.T.frz, DL.T.pln, frzL, plnL, List.map_cons, List.map_nil, List.length_cons, List.length_nil, List.replicate_succ, List.replicate_zero, List.cons_append, List.nil_append, List.append_nil, List.getElem?_cons_zero, List.getElem?_cons_succ, List.getElem?_nil, List.set_cons_zero, List.set_cons_succ, List.set_nil, atI_0, atI_1, atI_2, atI_3, atI_4, ixN_0, ixN_1, ixN_2, plnL_dats, frzL_dats, allK_map, anyK_map, sumK_map, eqv_int, eqOk_int, eqOk_none, eqOk_bool, eqOk_str, bkOk, putBack, adr, pick, List.getD_cons_zero, List.getD_cons_succ, redat, wipeD, true_and, and_true, if_true, if_false, ite_true, ite_false, Bool.true_and, Bool.and_true, Bool.false_and, Bool.not_true, Bool.not_false, Option.getD_some] at hQ ⊢ <;> first | exact hQ _ rfl | exact ⟨by omega, hQ _ rfl⟩
                · simp only [dSeq, dNext, dIf, dRet, dRetN, dSet, dDrop, dC, dVar, dMv, dOp, dTest, dTru, dNot, dAnd, dOr, dAndV, dOrV, dNotV, dIfE, dCons, dNil, dLst, dTup, dFrz, dNeg, dChain, dIx, dIxS, dCa, dIsi, dIsi2, dAsg, dgName, dgTup, dgCons, dgNil, dwSeq, dwTup, dwRng1, dwRng2, dwEnum, dwZip, zipD_map, eqv_strS, plnL_T, frzL_T, dListOf, dIsN, dNotN, tN, dCat, dSl, dNoPart, dPart, dFor, dSetIx, dApp, dCall, dCallK, dPar, dOrT, dAndT, dYes, bodyE, keepPs, keepP, addK, subK, mulK, fdivK, modK, powK, ltK, leK, gtK, geK, eqK, neK, isK, isNotK, isNone, ixK, lenK, maxK, minK, absK, intK, strK, isIn_int, isIn_bool, isIn_list, isIn_tuple, isIn_str, truD, DL.T.frz, DL.T.pln, frzL, plnL, List.map_cons, List.map_nil, List.length_cons, List.length_nil, List.replicate_succ, List.replicate_zero, List.cons_append, List.nil_append, List.append_nil, List.getElem?_cons_zero, List.getElem?_cons_succ, List.getElem?_nil, List.set_cons_zero, List.set_cons_succ, List.set_nil, atI_0, atI_1, atI_2, atI_3, atI_4, ixN_0, ixN_1, ixN_2, plnL_dats, frzL_dats, allK_map, anyK_map, sumK_map, eqv_int, eqOk_int, eqOk_none, eqOk_bool, eqOk_str, bkOk, putBack, adr, pick, List.getD_cons_zero, List.getD_cons_succ, redat, wipeD, true_and, and_true, if_true, if_false, ite_true, ite_false, Bool.true_and, Bool.and_true, Bool.false_and, Bool.not_true, Bool.not_false, Option.getD_some]
                  simpa using h
              | _ => simp [listD] at hd
            · simp only [Bool.not_eq_true] at hd
              cases ds <;> simp [hd, hg, marketD] at h ⊢ <;> exact h
          | _ => simp [goodsD] at hg
        · simp only [Bool.not_eq_true] at hg
          cases g <;> cases ds <;> simp [hg, marketD] at h ⊢ <;> exact h
      | [] => simp [dSeq, dNext, dIf, dRet, dRetN, dSet, dDrop, dC, dVar, dMv, dOp, dTest, dTru, dNot, dAnd, dOr, dAndV, dOrV, dNotV, dIfE, dCons, dNil, dLst, dTup, dFrz, dNeg, dChain, dIx, dIxS, dCa, dIsi, dIsi2, dAsg, dgName, dgTup, dgCons, dgNil, dwSeq, dwTup, dwRng1, dwRng2, dwEnum, dwZip, zipD_map, eqv_strS, plnL_T, frzL_T, dListOf, dIsN, dNotN, tN, dCat, dSl, dNoPart, dPart, dFor, dSetIx, dApp, dCall, dCallK, dPar, dOrT, dAndT, dYes, bodyE, keepPs, keepP, addK, subK, mulK, fdivK, modK, powK, ltK, leK, gtK, geK, eqK, neK, isK, isNotK, isNone, ixK, lenK, maxK, minK, absK, intK, strK, isIn_int, isIn_bool, isIn_list, isIn_tuple, isIn_str, truD, DL.T.frz, DL.T.pln, frzL, plnL, List.map_cons, List.map_nil, List.length_cons, List.length_nil, List.replicate_succ, List.replicate_zero, List.cons_append, List.nil_append, List.append_nil, List.getElem?_cons_zero, List.getElem?_cons_succ, List.getElem?_nil, List.set_cons_zero, List.set_cons_succ, List.set_nil, atI_0, atI_1, atI_2, atI_3, atI_4, ixN_0, ixN_1, ixN_2, plnL_dats, frzL_dats, allK_map, anyK_map, sumK_map, eqv_int, eqOk_int, eqOk_none, eqOk_bool, eqOk_str, bkOk, putBack, adr, pick, List.getD_cons_zero, List.getD_cons_succ, redat, wipeD, true_and, and_true, if_true, if_false, ite_true, ite_false, Bool.true_and, Bool.and_true, Bool.false_and, Bool.not_true, Bool.not_false, Option.getD_some, marketD] at h ⊢; exact h
      | [_] => simp [dSeq, dNext, dIf, dRet, dRetN, dSet, dDrop, dC, dVar, dMv, dOp, dTest, dTru, dNot, dAnd, dOr, dAndV, dOrV, dNotV, dIfE, dCons, dNil, dLst, dTup, dFrz, dNeg, dChain, dIx, dIxS, dCa, dIsi, dIsi2, dAsg, dgName, dgTup, dgCons, dgNil, dwSeq, dwTup, dwRng1, dwRng2, dwEnum, dwZip, zipD_map, eqv_strS, plnL_T, frzL_T, dListOf, dIsN, dNotN, tN, dCat, dSl, dNoPart, dPart, dFor, dSetIx, dApp, dCall, dCallK, dPar, dOrT, dAndT, dYes, bodyE, keepPs, keepP, addK, subK, mulK, fdivK, modK, powK, ltK, leK, gtK, geK, eqK, neK, isK, isNotK, isNone, ixK, lenK, maxK, minK, absK, intK, strK, isIn_int, isIn_bool, isIn_list, isIn_tuple, isIn_str, truD, DL.T.frz, DL.T.pln, frzL, plnL, List.map_cons, List.map_nil, List.length_cons, List.length_nil, List.replicate_succ, List.replicate_zero, List.cons_append, List.nil_append, List.append_nil, List.getElem?_cons_zero, List.getElem?_cons_succ, List.getElem?_nil, List.set_cons_zero, List.set_cons_succ, List.set_nil, atI_0, atI_1, atI_2, atI_3, atI_4, ixN_0, ixN_1, ixN_2, plnL_dats, frzL_dats, allK_map, anyK_map, sumK_map, eqv_int, eqOk_int, eqOk_none, eqOk_bool, eqOk_str, bkOk, putBack, adr, pick, List.getD_cons_zero, List.getD_cons_succ, redat, wipeD, true_and, and_true, if_true, if_false, ite_true, ite_false, Bool.true_and, Bool.and_true, Bool.false_and, Bool.not_true, Bool.not_false, Option.getD_some, marketD] at h ⊢; exact h
      | _ :: _ :: _ :: l =>
        have e : ¬ ((l.length : Int) + 1 + 1 + 1 = 2) := by omega
        simp [dSeq, dNext, dIf, dRet, dRetN, dSet, dDrop, dC, dVar, dMv, dOp, dTest, dTru, dNot, dAnd, dOr, dAndV, dOrV, dNotV, dIfE, dCons, dNil, dLst, dTup, dFrz, dNeg, dChain, dIx, dIxS, dCa, dIsi, dIsi2, dAsg, dgName, dgTup, dgCons, dgNil, dwSeq, dwTup, dwRng1, dwRng2, dwEnum, dwZip, zipD_map, eqv_strS, plnL_T, frzL_T, dListOf, dIsN, dNotN, tN, dCat, dSl, dNoPart, dPart, dFor, dSetIx, dApp, dCall, dCallK, dPar, dOrT, dAndT, dYes, bodyE, keepPs, keepP, addK, subK, mulK, fdivK, modK, powK, ltK, leK, gtK, geK, eqK, neK, isK, isNotK, isNone, ixK, lenK, maxK, minK, absK, intK, strK, isIn_int, isIn_bool, isIn_list, isIn_tuple, isIn_str, truD, DL.T.frz, DL.T.pln, frzL, plnL, List.map_cons, List.map_nil, List.length_cons, List.length_nil, List.replicate_succ, List.replicate_zero, List.cons_append, List.nil_append, List.append_nil, List.getElem?_cons_zero, List.getElem?_cons_succ, List.getElem?_nil, List.set_cons_zero, List.set_cons_succ, List.set_nil, atI_0, atI_1, atI_2, atI_3, atI_4, ixN_0, ixN_1, ixN_2, plnL_dats, frzL_dats, allK_map, anyK_map, sumK_map, eqv_int, eqOk_int, eqOk_none, eqOk_bool, eqOk_str, bkOk, putBack, adr, pick, List.getD_cons_zero, List.getD_cons_succ, redat, wipeD, true_and, and_true, if_true, if_false, ite_true, ite_false, Bool.true_and, Bool.and_true, Bool.false_and, Bool.not_true, Bool.not_false, Option.getD_some, marketD, e] at h ⊢
        exact h
    | _ => simp [dSeq, dNext, dIf, dRet, dRetN, dSet, dDrop, dC, dVar, dMv, dOp, dTest, dTru, dNot, dAnd, dOr, dAndV, dOrV, dNotV, dIfE, dCons, dNil, dLst, dTup, dFrz, dNeg, dChain, dIx, dIxS, dCa, dIsi, dIsi2, dAsg, dgName, dgTup, dgCons, dgNil, dwSeq, dwTup, dwRng1, dwRng2, dwEnum, dwZip, zipD_map, eqv_strS, plnL_T, frzL_T, dListOf, dIsN, dNotN, tN, dCat, dSl, dNoPart, dPart, dFor, dSetIx, dApp, dCall, dCallK, dPar, dOrT, dAndT, dYes, bodyE, keepPs, keepP, addK, subK, mulK, fdivK, modK, powK, ltK, leK, gtK, geK, eqK, neK, isK, isNotK, isNone, ixK, lenK, maxK, minK, absK, intK, strK, isIn_int, isIn_bool, isIn_list, isIn_tuple, isIn_str, truD, DL.T.frz, DL.T.pln, frzL, plnL, List.map_cons, List.map_nil, List.length_cons, List.length_nil, List.replicate_succ, List.replicate_zero, List.cons_append, List.nil_append, List.append_nil, List.getElem?_cons_zero, List.getElem?_cons_succ, List.getElem?_nil, List.set_cons_zero, List.set_cons_succ, List.set_nil, atI_0, atI_1, atI_2, atI_3, atI_4, ixN_0, ixN_1, ixN_2, plnL_dats, frzL_dats, allK_map, anyK_map, sumK_map, eqv_int, eqOk_int, eqOk_none, eqOk_bool, eqOk_str, bkOk, putBack, adr, pick, List.getD_cons_zero, List.getD_cons_succ, redat, wipeD, true_and, and_true, if_true, if_false, ite_true, ite_false, Bool.true_and, Bool.and_true, Bool.false_and, Bool.not_true, Bool.not_false, Option.getD_some, marketD] at h ⊢; exact h
  · exact h.elim
def sp_need_market : FSp := fun As Q => match As with
  | [.dat d] => marketD d = true ∧ Q (.dat .none) [none]
  | _ => False
theorem wholeD_in {i l h : Int} : wholeD (.int i) (.int l) (.int h) = (decide (l ≤ i) && decide (i ≤ h)) := rfl
theorem goodD_enc {g : Int × Int × Int} (h : WFg g) : goodD (encG g) = true := by
  obtain ⟨⟨h1, h2⟩, ⟨h3, h4⟩, h5, h6⟩ := h
  simp [goodD, encG, wholeD_in, h1, h2, h3, h4, h5, h6]
theorem buyerD_enc {n : Nat} {b : List (Option Int)} (h : WFb n b) : buyerD (encB b) n = true := by
  obtain ⟨h1, h2⟩ := h
  simp only [buyerD, encB, listD, List.length_map, h1, Bool.and_eq_true, decide_eq_true_eq, List.all_eq_true, List.mem_map]
  refine ⟨by omega, ?_⟩
  rintro _ ⟨w, hw, rfl⟩
  cases w with
  | none => rfl
  | some w =>
    have := h2 w hw
    simp [encO, isNone, wholeD_in, this]
theorem marketD_enc {m : Mart} (h : WF m) : marketD (encM m) = true := by
  have h1 := h.g1
  have h2 := h.g4
  have h3 := h.d1
  have h4 := h.d6
  simp only [marketD, encM, goodsD, listD, List.length_map, Bool.and_eq_true, decide_eq_true_eq, List.all_eq_true, List.mem_map]
  refine ⟨⟨by omega, ?_⟩, by omega, ?_⟩
  · rintro _ ⟨g, hg, rfl⟩
    exact goodD_enc (h.gs g hg)
  · rintro _ ⟨b, hb, rfl⟩
    cases b with
    | none => rfl
    | some b =>
      show (isNone (encB b) || buyerD (encB b) m.goods.length) = true
      rw [buyerD_enc (h.ds b hb), Bool.or_true]
theorem ok_need_market (tx : Txt K mg A) : FnOk P w K mg base CX0 5 A.a_need_market A.d_need_market ["market"] (spD K 1 sp_need_market) := by
  refine fn_okD (N := ["market"]) (k := 4) (sp := sp_need_market) tx.F_need_market sc_need_market ?_
  intro cdv Ar outer s H E hr
  refine Exists.intro _ (And.intro (pssd_one (psd_if (ptd_not (ptd_val (pd_call (dv := []) (dvs := []) (ok_is_market tx) (hr.mono (by decide)) (by rfl) tx.F_is_market.g tx.F_is_market.F.kp (b_is_market tx) .nil rfl [] (pad_cons (pdv 0) pad_nil)))) (pssd_one psd_never) pssd_nil)) ?_)
  intro As Qd hl h
  unfold sp_need_market at h
  split at h
  · next d =>
    simp [dSeq, dNext, dIf, dRet, dRetN, dSet, dDrop, dC, dVar, dMv, dOp, dTest, dTru, dNot, dAnd, dOr, dAndV, dOrV, dNotV, dIfE, dCons, dNil, dLst, dTup, dFrz, dNeg, dChain, dIx, dIxS, dCa, dIsi, dIsi2, dAsg, dgName, dgTup, dgCons, dgNil, dwSeq, dwTup, dwRng1, dwRng2, dwEnum, dwZip, zipD_map, eqv_strS, plnL_T, frzL_T, dListOf, dIsN, dNotN, tN, dCat, dSl, dNoPart, dPart, dFor, dSetIx, dApp, dCall, dCallK, dPar, dOrT, dAndT, dYes, bodyE, keepPs, keepP, addK, subK, mulK, fdivK, modK, powK, ltK, leK, gtK, geK, eqK, neK, isK, isNotK, isNone, ixK, lenK, maxK, minK, absK, intK, strK, isIn_int, isIn_bool, isIn_list, isIn_tuple, isIn_str, truD, DL.T.frz, DL.T.pln, frzL, plnL, List.map_cons, List.map_nil, List.length_cons, List.length_nil, List.replicate_succ, List.replicate_zero, List.cons_append, List.nil_append, List.append_nil, List.getElem?_cons_zero, List.getElem?_cons_succ, List.getElem?_nil, List.set_cons_zero, List.set_cons_succ, List.set_nil, atI_0, atI_1, atI_2, atI_3, atI_4, ixN_0, ixN_1, ixN_2, plnL_dats, frzL_dats, allK_map, anyK_map, sumK_map, eqv_int, eqOk_int, eqOk_none, eqOk_bool, eqOk_str, bkOk, putBack, adr, pick, List.getD_cons_zero, List.getD_cons_succ, redat, wipeD, true_and, and_true, if_true, if_false, ite_true, ite_false, Bool.true_and, Bool.and_true, Bool.false_and, Bool.not_true, Bool.not_false, Option.getD_some, sp_is_market, h.1]
    exact h.2
  · exact h.elim
def sp_is_prices : FSp := fun As Q => ∃ ps : List Int, As = [.dat (.list (ps.map .int)), .dat (.int ps.length)] ∧ ps.length ≤ 1000 ∧ (∀ p ∈ ps, -1000000 ≤ p ∧ p ≤ 1000000) ∧ Q (.dat (.bool true)) [none, none]
theorem ok_is_prices (tx : Txt K mg A) : FnOk P w K mg base CX0 2 A.a_is_prices A.d_is_prices ["thing", "many"] (spD K 2 sp_is_prices) := by
  refine fn_okD (N := ["thing", "many", "price"]) (k := 1) (sp := sp_is_prices) tx.F_is_prices sc_is_prices ?_
  intro cdv Ar outer s H E hr
  obtain ⟨_, h_bd_is_whole_3⟩ := bd_is_whole_3 tx
  refine Exists.intro _ (And.intro (pssd_one (psd_ret (pd_and (pd_call (dv := []) (dvs := []) (ok_is_list tx) (hr.mono (by decide)) (by rfl) tx.F_is_list.g tx.F_is_list.F.kp (b_is_list tx) .nil rfl [] (pad_cons (pdv 0) (pad_cons (pdv 1) (pad_cons (pdv 1) pad_nil)))) (pd_one (pd_callB (ca_all (by rfl)) (by rfl) tx.n_all (by decide +kernel) (pad_cons (pd_frz (pd_lc (own := [("price", 2)]) rfl sc_is_prices.nd (pid_list (pdv 0)) (blkOk_by (N := ["thing", "many", "price"]) (sc := defScope s_is_prices) (by decide +kernel)) (fun _ _ _ _ _ => (pg_name (i := 2) sc_is_prices.nd rfl (Or.inl rfl))) (link_name (by decide)) (fun _ _ _ _ _ => ptsd_nil) (fun _ _ _ _ _ => (pd_call (dv := []) (dvs := []) (ok_is_whole tx) (hr.mono (by decide)) (by rfl) tx.F_is_whole.g tx.F_is_whole.F.kp h_bd_is_whole_3.2 h_bd_is_whole_3.1 rfl [] (pad_cons (pdv 2) (pad_cons (pd_neg (pd_gc (d := (.int (1000000))) (by rfl) tx.c_MOST_PRICE (by rfl))) (pad_cons (pd_gc (d := (.int (1000000))) (by rfl) tx.c_MOST_PRICE (by rfl)) pad_nil))))))) pad_nil)))))) ?_)
  intro As Qd hl h
  obtain ⟨ps, rfl, hl1, hps, h⟩ := h
  simp only [dSeq, dNext, dIf, dRet, dRetN, dSet, dDrop, dC, dVar, dMv, dOp, dTest, dTru, dNot, dAnd, dOr, dAndV, dOrV, dNotV, dIfE, dCons, dNil, dLst, dTup, dFrz, dNeg, dChain, dIx, dIxS, dCa, dIsi, dIsi2, dAsg, dgName, dgTup, dgCons, dgNil, dwSeq, dwTup, dwRng1, dwRng2, dwEnum, dwZip, zipD_map, eqv_strS, plnL_T, frzL_T, dListOf, dIsN, dNotN, tN, dCat, dSl, dNoPart, dPart, dFor, dSetIx, dApp, dCall, dCallK, dPar, dOrT, dAndT, dYes, bodyE, keepPs, keepP, addK, subK, mulK, fdivK, modK, powK, ltK, leK, gtK, geK, eqK, neK, isK, isNotK, isNone, ixK, lenK, maxK, minK, absK, intK, strK, isIn_int, isIn_bool, isIn_list, isIn_tuple, isIn_str, truD, DL.T.frz, DL.T.pln, frzL, plnL, List.map_cons, List.map_nil, List.length_cons, List.length_nil, List.replicate_succ, List.replicate_zero, List.cons_append, List.nil_append, List.append_nil, List.getElem?_cons_zero, List.getElem?_cons_succ, List.getElem?_nil, List.set_cons_zero, List.set_cons_succ, List.set_nil, atI_0, atI_1, atI_2, atI_3, atI_4, ixN_0, ixN_1, ixN_2, plnL_dats, frzL_dats, allK_map, anyK_map, sumK_map, eqv_int, eqOk_int, eqOk_none, eqOk_bool, eqOk_str, bkOk, putBack, adr, pick, List.getD_cons_zero, List.getD_cons_succ, redat, wipeD, true_and, and_true, if_true, if_false, ite_true, ite_false, Bool.true_and, Bool.and_true, Bool.false_and, Bool.not_true, Bool.not_false, Option.getD_some, sp_is_list, dLc]
  have e1 : listD (.list (ps.map .int)) (ps.length : Nat) (ps.length : Nat) = true := by simp [listD]
  simp only [e1, dSeq, dNext, dIf, dRet, dRetN, dSet, dDrop, dC, dVar, dMv, dOp, dTest, dTru, dNot, dAnd, dOr, dAndV, dOrV, dNotV, dIfE, dCons, dNil, dLst, dTup, dFrz, dNeg, dChain, dIx, dIxS, dCa, dIsi, dIsi2, dAsg, dgName, dgTup, dgCons, dgNil, dwSeq, dwTup, dwRng1, dwRng2, dwEnum, dwZip, zipD_map, eqv_strS, plnL_T, frzL_T, dListOf, dIsN, dNotN, tN, dCat, dSl, dNoPart, dPart, dFor, dSetIx, dApp, dCall, dCallK, dPar, dOrT, dAndT, dYes, bodyE, keepPs, keepP, addK, subK, mulK, fdivK, modK, powK, ltK, leK, gtK, geK, eqK, neK, isK, isNotK, isNone, ixK, lenK, maxK, minK, absK, intK, strK, isIn_int, isIn_bool, isIn_list, isIn_tuple, isIn_str, truD, DL.T.frz, DL.T.pln, frzL, plnL, List.map_cons, List.map_nil, List.length_cons, List.length_nil, List.replicate_succ, List.replicate_zero, List.cons_append, List.nil_append, List.append_nil, List.getElem?_cons_zero, List.getElem?_cons_succ, List.getElem?_nil, List.set_cons_zero, List.set_cons_succ, List.set_nil, atI_0, atI_1, atI_2, atI_3, atI_4, ixN_0, ixN_1, ixN_2, plnL_dats, frzL_dats, allK_map, anyK_map, sumK_map, eqv_int, eqOk_int, eqOk_none, eqOk_bool, eqOk_str, bkOk, putBack, adr, pick, List.getD_cons_zero, List.getD_cons_succ, redat, wipeD, true_and, and_true, if_true, if_false, ite_true, ite_false, Bool.true_and, Bool.and_true, Bool.false_and, Bool.not_true, Bool.not_false, Option.getD_some]
  refine lc_mapA (fun i : Int => .int i) (fun _ => .bool true) ps [] (fun c hcm Q hQ => ?_) (sz (by simp; omega)) ?_
  · obtain ⟨c0, c1⟩ := hps c hcm
    simp only [dSeq, dNext, dIf, dRet, dRetN, dSet, dDrop, dC, dVar, dMv, dOp, dTest, dTru, dNot, dAnd, dOr, dAndV, dOrV, dNotV, dIfE, dCons, dNil, dLst, dTup, dFrz, dNeg, dChain, dIx, dIxS, dCa, dIsi, dIsi2, dAsg, dgName, dgTup, dgCons, dgNil, dwSeq, dwTup, dwRng1, dwRng2, dwEnum, dwZip, zipD_map, eqv_strS, plnL_T, frzL_T, dListOf, dIsN, dNotN, tN, dCat, dSl, dNoPart, dPart, dFor, dSetIx, dApp, dCall, dCallK, dPar, dOrT, dAndT, dYes, bodyE, keepPs, keepP, addK, subK, mulK, fdivK, modK, powK, ltK, leK, gtK, geK, eqK, neK, isK, isNotK, isNone, ixK, lenK, maxK, minK, absK, intK, strK, isIn_int, isIn_bool, isIn_list, isIn_tuple, isIn_str, truD, DL.T.frz, DL.T.pln, frzL, plnL, List.map_cons, List.map_nil, List.length_cons, List.length_nil, List.replicate_succ, List.replicate_zero, List.cons_append, List.nil_append, List.append_nil, List.getElem?_cons_zero, List.getElem?_cons_succ, List.getElem?_nil, List.set_cons_zero, List.set_cons_succ, List.set_nil, atI_0, atI_1, atI_2, atI_3, atI_4, ixN_0, ixN_1, ixN_2, plnL_dats, frzL_dats, allK_map, anyK_map, sumK_map, eqv_int, eqOk_int, eqOk_none, eqOk_bool, eqOk_str, bkOk, putBack, adr, pick, List.getD_cons_zero, List.getD_cons_succ, redat, wipeD, true_and, and_true, if_true, if_false, ite_true, ite_false, Bool.true_and, Bool.and_true, Bool.false_and, Bool.not_true, Bool.not_false, Option.getD_some, sp_is_whole] at hQ ⊢
    simp only [bnd, wholeD_in, c0, c1, decide_true, dSeq, dNext, dIf, dRet, dRetN, dSet, dDrop, dC, dVar, dMv, dOp, dTest, dTru, dNot, dAnd, dOr, dAndV, dOrV, dNotV, dIfE, dCons, dNil, dLst, dTup, dFrz, dNeg, dChain, dIx, dIxS, dCa, dIsi, dIsi2, dAsg, dgName, dgTup, dgCons, dgNil, dwSeq, dwTup, dwRng1, dwRng2, dwEnum, dwZip, zipD_map, eqv_strS, plnL_T, frzL_T, dListOf, dIsN, dNotN, tN, dCat, dSl, dNoPart, dPart, dFor, dSetIx, dApp, dCall, dCallK, dPar, dOrT, dAndT, dYes, bodyE, keepPs, keepP, addK, subK, mulK, fdivK, modK, powK, ltK, leK, gtK, geK, eqK, neK, isK, isNotK, isNone, ixK, lenK, maxK, minK, absK, intK, strK, isIn_int, isIn_bool, isIn_list, isIn_tuple, isIn_str, truD, DL.T.frz, DL.T.pln, frzL, plnL, List.map_cons, List.map_nil, List.length_cons, List.length_nil, List.replicate_succ, List.replicate_zero, List.cons_append, List.nil_append, List.append_nil, List.getElem?_cons_zero, List.getElem?_cons_succ, List.getElem?_nil, List.set_cons_zero, List.set_cons_succ, List.set_nil, atI_0, atI_1, atI_2, atI_3, atI_4, ixN_0, ixN_1, ixN_2, plnL_dats, frzL_dats, allK_map, anyK_map, sumK_map, eqv_int, eqOk_int, eqOk_none, eqOk_bool, eqOk_str, bkOk, putBack, adr, pick, List.getD_cons_zero, List.getD_cons_succ, redat, wipeD, true_and, and_true, if_true, if_false, ite_true, ite_false, Bool.true_and, Bool.and_true, Bool.false_and, Bool.not_true, Bool.not_false, Option.getD_some]
    exact ⟨by decide, hQ _ rfl⟩
  · have e2 : ∀ xs : List Int, (xs.all fun _ => true) = true := fun xs => by simp
    simp only [dSeq, dNext, dIf, dRet, dRetN, dSet, dDrop, dC, dVar, dMv, dOp, dTest, dTru, dNot, dAnd, dOr, dAndV, dOrV, dNotV, dIfE, dCons, dNil, dLst, dTup, dFrz, dNeg, dChain, dIx, dIxS, dCa, dIsi, dIsi2, dAsg, dgName, dgTup, dgCons, dgNil, dwSeq, dwTup, dwRng1, dwRng2, dwEnum, dwZip, zipD_map, eqv_strS, plnL_T, frzL_T, dListOf, dIsN, dNotN, tN, dCat, dSl, dNoPart, dPart, dFor, dSetIx, dApp, dCall, dCallK, dPar, dOrT, dAndT, dYes, bodyE, keepPs, keepP, addK, subK, mulK, fdivK, modK, powK, ltK, leK, gtK, geK, eqK, neK, isK, isNotK, isNone, ixK, lenK, maxK, minK, absK, intK, strK, isIn_int, isIn_bool, isIn_list, isIn_tuple, isIn_str, truD, DL.T.frz, DL.T.pln, frzL, plnL, List.map_cons, List.map_nil, List.length_cons, List.length_nil, List.replicate_succ, List.replicate_zero, List.cons_append, List.nil_append, List.append_nil, List.getElem?_cons_zero, List.getElem?_cons_succ, List.getElem?_nil, List.set_cons_zero, List.set_cons_succ, List.set_nil, atI_0, atI_1, atI_2, atI_3, atI_4, ixN_0, ixN_1, ixN_2, plnL_dats, frzL_dats, allK_map, anyK_map, sumK_map, eqv_int, eqOk_int, eqOk_none, eqOk_bool, eqOk_str, bkOk, putBack, adr, pick, List.getD_cons_zero, List.getD_cons_succ, redat, wipeD, true_and, and_true, if_true, if_false, ite_true, ite_false, Bool.true_and, Bool.and_true, Bool.false_and, Bool.not_true, Bool.not_false, Option.getD_some, e2]
    intro p
    exact h
def sp_need_prices : FSp := fun As Q => ∃ (m : Mart) (ps : List Int), WF m ∧ As = [.dat (encM m), .dat (.list (ps.map .int))] ∧ ps.length = m.goods.length ∧ (∀ p ∈ ps, -1000000 ≤ p ∧ p ≤ 1000000) ∧ Q (.dat .none) [none, none]
theorem ok_need_prices (tx : Txt K mg A) : FnOk P w K mg base CX0 3 A.a_need_prices A.d_need_prices ["market", "prices"] (spD K 2 sp_need_prices) := by
  refine fn_okD (N := ["market", "prices"]) (k := 2) (sp := sp_need_prices) tx.F_need_prices sc_need_prices ?_
  intro cdv Ar outer s H E hr
  refine Exists.intro _ (And.intro (pssd_one (psd_if (ptd_not (ptd_val (pd_call (dv := []) (dvs := []) (ok_is_prices tx) (hr.mono (by decide)) (by rfl) tx.F_is_prices.g tx.F_is_prices.F.kp (b_is_prices tx) .nil rfl [] (pad_cons (pdv 1) (pad_cons (pd_callB ca_len (by rfl) tx.n_len (by decide +kernel) (pad_cons (pd_ix (pdv 0) pd_int) pad_nil)) pad_nil))))) (pssd_one psd_never) pssd_nil)) ?_)
  intro As Qd hl h
  obtain ⟨m, ps, hm, rfl, hl1, hps, h⟩ := h
  have hl4 := hm.g4
  simp only [dSeq, dNext, dIf, dRet, dRetN, dSet, dDrop, dC, dVar, dMv, dOp, dTest, dTru, dNot, dAnd, dOr, dAndV, dOrV, dNotV, dIfE, dCons, dNil, dLst, dTup, dFrz, dNeg, dChain, dIx, dIxS, dCa, dIsi, dIsi2, dAsg, dgName, dgTup, dgCons, dgNil, dwSeq, dwTup, dwRng1, dwRng2, dwEnum, dwZip, zipD_map, eqv_strS, plnL_T, frzL_T, dListOf, dIsN, dNotN, tN, dCat, dSl, dNoPart, dPart, dFor, dSetIx, dApp, dCall, dCallK, dPar, dOrT, dAndT, dYes, bodyE, keepPs, keepP, addK, subK, mulK, fdivK, modK, powK, ltK, leK, gtK, geK, eqK, neK, isK, isNotK, isNone, ixK, lenK, maxK, minK, absK, intK, strK, isIn_int, isIn_bool, isIn_list, isIn_tuple, isIn_str, truD, DL.T.frz, DL.T.pln, frzL, plnL, List.map_cons, List.map_nil, List.length_cons, List.length_nil, List.replicate_succ, List.replicate_zero, List.cons_append, List.nil_append, List.append_nil, List.getElem?_cons_zero, List.getElem?_cons_succ, List.getElem?_nil, List.set_cons_zero, List.set_cons_succ, List.set_nil, atI_0, atI_1, atI_2, atI_3, atI_4, ixN_0, ixN_1, ixN_2, plnL_dats, frzL_dats, allK_map, anyK_map, sumK_map, eqv_int, eqOk_int, eqOk_none, eqOk_bool, eqOk_str, bkOk, putBack, adr, pick, List.getD_cons_zero, List.getD_cons_succ, redat, wipeD, true_and, and_true, if_true, if_false, ite_true, ite_false, Bool.true_and, Bool.and_true, Bool.false_and, Bool.not_true, Bool.not_false, Option.getD_some, sp_is_prices, encM]
  refine ⟨ps, by simp [hl1], by omega, hps, ?_⟩
  rw [if_neg (by decide)]
  exact h
def sp_need_day : FSp := fun As Q => match As with
  | [.dat d, .dat m] => bnd m = true ∧ wholeD d (.int 0) m = true ∧ Q (.dat .none) [none, none]
  | _ => False
theorem ok_need_day (tx : Txt K mg A) : FnOk P w K mg base CX0 2 A.a_need_day A.d_need_day ["day", "most"] (spD K 2 sp_need_day) := by
  refine fn_okD (N := ["day", "most"]) (k := 1) (sp := sp_need_day) tx.F_need_day sc_need_day ?_
  intro cdv Ar outer s H E hr
  obtain ⟨_, h_bd_is_whole_3⟩ := bd_is_whole_3 tx
  refine Exists.intro _ (And.intro (pssd_one (psd_if (ptd_not (ptd_val (pd_call (dv := []) (dvs := []) (ok_is_whole tx) (hr.mono (by decide)) (by rfl) tx.F_is_whole.g tx.F_is_whole.F.kp h_bd_is_whole_3.2 h_bd_is_whole_3.1 rfl [] (pad_cons (pdv 0) (pad_cons pd_int (pad_cons (pdv 1) pad_nil)))))) (pssd_one psd_never) pssd_nil)) ?_)
  intro As Qd hl h
  unfold sp_need_day at h
  split at h
  · next d m =>
    obtain ⟨b, hw, h⟩ := h
    simp only [dSeq, dNext, dIf, dRet, dRetN, dSet, dDrop, dC, dVar, dMv, dOp, dTest, dTru, dNot, dAnd, dOr, dAndV, dOrV, dNotV, dIfE, dCons, dNil, dLst, dTup, dFrz, dNeg, dChain, dIx, dIxS, dCa, dIsi, dIsi2, dAsg, dgName, dgTup, dgCons, dgNil, dwSeq, dwTup, dwRng1, dwRng2, dwEnum, dwZip, zipD_map, eqv_strS, plnL_T, frzL_T, dListOf, dIsN, dNotN, tN, dCat, dSl, dNoPart, dPart, dFor, dSetIx, dApp, dCall, dCallK, dPar, dOrT, dAndT, dYes, bodyE, keepPs, keepP, addK, subK, mulK, fdivK, modK, powK, ltK, leK, gtK, geK, eqK, neK, isK, isNotK, isNone, ixK, lenK, maxK, minK, absK, intK, strK, isIn_int, isIn_bool, isIn_list, isIn_tuple, isIn_str, truD, DL.T.frz, DL.T.pln, frzL, plnL, List.map_cons, List.map_nil, List.length_cons, List.length_nil, List.replicate_succ, List.replicate_zero, List.cons_append, List.nil_append, List.append_nil, List.getElem?_cons_zero, List.getElem?_cons_succ, List.getElem?_nil, List.set_cons_zero, List.set_cons_succ, List.set_nil, atI_0, atI_1, atI_2, atI_3, atI_4, ixN_0, ixN_1, ixN_2, plnL_dats, frzL_dats, allK_map, anyK_map, sumK_map, eqv_int, eqOk_int, eqOk_none, eqOk_bool, eqOk_str, bkOk, putBack, adr, pick, List.getD_cons_zero, List.getD_cons_succ, redat, wipeD, true_and, and_true, if_true, if_false, ite_true, ite_false, Bool.true_and, Bool.and_true, Bool.false_and, Bool.not_true, Bool.not_false, Option.getD_some, sp_is_whole]
    refine ⟨by decide, b, ?_⟩
    simp only [hw, dSeq, dNext, dIf, dRet, dRetN, dSet, dDrop, dC, dVar, dMv, dOp, dTest, dTru, dNot, dAnd, dOr, dAndV, dOrV, dNotV, dIfE, dCons, dNil, dLst, dTup, dFrz, dNeg, dChain, dIx, dIxS, dCa, dIsi, dIsi2, dAsg, dgName, dgTup, dgCons, dgNil, dwSeq, dwTup, dwRng1, dwRng2, dwEnum, dwZip, zipD_map, eqv_strS, plnL_T, frzL_T, dListOf, dIsN, dNotN, tN, dCat, dSl, dNoPart, dPart, dFor, dSetIx, dApp, dCall, dCallK, dPar, dOrT, dAndT, dYes, bodyE, keepPs, keepP, addK, subK, mulK, fdivK, modK, powK, ltK, leK, gtK, geK, eqK, neK, isK, isNotK, isNone, ixK, lenK, maxK, minK, absK, intK, strK, isIn_int, isIn_bool, isIn_list, isIn_tuple, isIn_str, truD, DL.T.frz, DL.T.pln, frzL, plnL, List.map_cons, List.map_nil, List.length_cons, List.length_nil, List.replicate_succ, List.replicate_zero, List.cons_append, List.nil_append, List.append_nil, List.getElem?_cons_zero, List.getElem?_cons_succ, List.getElem?_nil, List.set_cons_zero, List.set_cons_succ, List.set_nil, atI_0, atI_1, atI_2, atI_3, atI_4, ixN_0, ixN_1, ixN_2, plnL_dats, frzL_dats, allK_map, anyK_map, sumK_map, eqv_int, eqOk_int, eqOk_none, eqOk_bool, eqOk_str, bkOk, putBack, adr, pick, List.getD_cons_zero, List.getD_cons_succ, redat, wipeD, true_and, and_true, if_true, if_false, ite_true, ite_false, Bool.true_and, Bool.and_true, Bool.false_and, Bool.not_true, Bool.not_false, Option.getD_some]
    exact h
  · exact h.elim
def sp_taken : FSp := fun As Q => ∃ (b : Option (List (Option Int))) (ps : List Int), As = [.dat (encD b), .dat (.list (ps.map .int))] ∧ (∀ bs, b = some bs → 1 ≤ bs.length ∧ bs.length ≤ 4 ∧ bs.length = ps.length) ∧ Q (.dat (encO (takeD b ps))) [none, none]
theorem ok_taken (tx : Txt K mg A) : FnOk P w K mg base CX0 1 A.a_taken A.d_taken ["buyer", "prices"] (spD K 2 sp_taken) := by
  refine fn_okD (N := ["buyer", "prices", "found", "best", "good", "worth"]) (k := 0) (sp := sp_taken) tx.F_taken sc_taken ?_
  intro cdv Ar outer s H E hr
  refine Exists.intro _ (And.intro (pssd_cons (psd_set (i := 2) sc_taken.nd pd_non) (pssd_cons (psd_set (i := 3) sc_taken.nd (pd_neg pd_int)) (pssd_cons (psd_for PassesOwn.never rfl (pid_enum (by rfl) tx.n_enumerate (pad_cons (pd_orT (pdv 0) (pd_one (pd_frz (pd_lst pad_nil)))) pad_nil)) (pgd_tup (n := 2) rfl (pgsd_cons (pgd_name (i := 4) sc_taken.nd) (pgsd_cons (pgd_name (i := 5) sc_taken.nd) pgsd_nil))) (pssd_one (psd_if ((pwd_and (ptd_cmp od_isNot (pdv 5) pd_non) (pwd_and1 (ptd_cmp od_gt (pd_op od_sub (pdv 5) (pd_ix (pdv 1) (pdv 4))) (pdv 3))))).pt (pssd_cons (psd_set (i := 2) sc_taken.nd (pdv 4)) (pssd_one (psd_set (i := 3) sc_taken.nd (pd_op od_sub (pdv 5) (pd_ix (pdv 1) (pdv 4)))))) pssd_nil))) (pssd_one (psd_ret (pdv 2)))))) ?_)
  intro As Qd hl h
  obtain ⟨b, ps, rfl, hb, h⟩ := h
  cases b with
  | none =>
    simp only [dSeq, dNext, dIf, dRet, dRetN, dSet, dDrop, dC, dVar, dMv, dOp, dTest, dTru, dNot, dAnd, dOr, dAndV, dOrV, dNotV, dIfE, dCons, dNil, dLst, dTup, dFrz, dNeg, dChain, dIx, dIxS, dCa, dIsi, dIsi2, dAsg, dgName, dgTup, dgCons, dgNil, dwSeq, dwTup, dwRng1, dwRng2, dwEnum, dwZip, zipD_map, eqv_strS, plnL_T, frzL_T, dListOf, dIsN, dNotN, tN, dCat, dSl, dNoPart, dPart, dFor, dSetIx, dApp, dCall, dCallK, dPar, dOrT, dAndT, dYes, bodyE, keepPs, keepP, addK, subK, mulK, fdivK, modK, powK, ltK, leK, gtK, geK, eqK, neK, isK, isNotK, isNone, ixK, lenK, maxK, minK, absK, intK, strK, isIn_int, isIn_bool, isIn_list, isIn_tuple, isIn_str, truD, DL.T.frz, DL.T.pln, frzL, plnL, List.map_cons, List.map_nil, List.length_cons, List.length_nil, List.replicate_succ, List.replicate_zero, List.cons_append, List.nil_append, List.append_nil, List.getElem?_cons_zero, List.getElem?_cons_succ, List.getElem?_nil, List.set_cons_zero, List.set_cons_succ, List.set_nil, atI_0, atI_1, atI_2, atI_3, atI_4, ixN_0, ixN_1, ixN_2, plnL_dats, frzL_dats, allK_map, anyK_map, sumK_map, eqv_int, eqOk_int, eqOk_none, eqOk_bool, eqOk_str, bkOk, putBack, adr, pick, List.getD_cons_zero, List.getD_cons_succ, redat, wipeD, true_and, and_true, if_true, if_false, ite_true, ite_false, Bool.true_and, Bool.and_true, Bool.false_and, Bool.not_true, Bool.not_false, Option.getD_some, encD]
    refine ⟨by decide, by decide, fun y hy => (by cases hy), ?_⟩
    rw [if_neg (by decide)]
    refine ⟨sz (by decide), fun p => ?_⟩
    simp only [enumD, dForL, dSeq, dNext, dIf, dRet, dRetN, dSet, dDrop, dC, dVar, dMv, dOp, dTest, dTru, dNot, dAnd, dOr, dAndV, dOrV, dNotV, dIfE, dCons, dNil, dLst, dTup, dFrz, dNeg, dChain, dIx, dIxS, dCa, dIsi, dIsi2, dAsg, dgName, dgTup, dgCons, dgNil, dwSeq, dwTup, dwRng1, dwRng2, dwEnum, dwZip, zipD_map, eqv_strS, plnL_T, frzL_T, dListOf, dIsN, dNotN, tN, dCat, dSl, dNoPart, dPart, dFor, dSetIx, dApp, dCall, dCallK, dPar, dOrT, dAndT, dYes, bodyE, keepPs, keepP, addK, subK, mulK, fdivK, modK, powK, ltK, leK, gtK, geK, eqK, neK, isK, isNotK, isNone, ixK, lenK, maxK, minK, absK, intK, strK, isIn_int, isIn_bool, isIn_list, isIn_tuple, isIn_str, truD, DL.T.frz, DL.T.pln, frzL, plnL, List.map_cons, List.map_nil, List.length_cons, List.length_nil, List.replicate_succ, List.replicate_zero, List.cons_append, List.nil_append, List.append_nil, List.getElem?_cons_zero, List.getElem?_cons_succ, List.getElem?_nil, List.set_cons_zero, List.set_cons_succ, List.set_nil, atI_0, atI_1, atI_2, atI_3, atI_4, ixN_0, ixN_1, ixN_2, plnL_dats, frzL_dats, allK_map, anyK_map, sumK_map, eqv_int, eqOk_int, eqOk_none, eqOk_bool, eqOk_str, bkOk, putBack, adr, pick, List.getD_cons_zero, List.getD_cons_succ, redat, wipeD, true_and, and_true, if_true, if_false, ite_true, ite_false, Bool.true_and, Bool.and_true, Bool.false_and, Bool.not_true, Bool.not_false, Option.getD_some]
    exact h
  | some bs =>
    obtain ⟨b1, b4, bl⟩ := hb bs rfl
    simp only [dSeq, dNext, dIf, dRet, dRetN, dSet, dDrop, dC, dVar, dMv, dOp, dTest, dTru, dNot, dAnd, dOr, dAndV, dOrV, dNotV, dIfE, dCons, dNil, dLst, dTup, dFrz, dNeg, dChain, dIx, dIxS, dCa, dIsi, dIsi2, dAsg, dgName, dgTup, dgCons, dgNil, dwSeq, dwTup, dwRng1, dwRng2, dwEnum, dwZip, zipD_map, eqv_strS, plnL_T, frzL_T, dListOf, dIsN, dNotN, tN, dCat, dSl, dNoPart, dPart, dFor, dSetIx, dApp, dCall, dCallK, dPar, dOrT, dAndT, dYes, bodyE, keepPs, keepP, addK, subK, mulK, fdivK, modK, powK, ltK, leK, gtK, geK, eqK, neK, isK, isNotK, isNone, ixK, lenK, maxK, minK, absK, intK, strK, isIn_int, isIn_bool, isIn_list, isIn_tuple, isIn_str, truD, DL.T.frz, DL.T.pln, frzL, plnL, List.map_cons, List.map_nil, List.length_cons, List.length_nil, List.replicate_succ, List.replicate_zero, List.cons_append, List.nil_append, List.append_nil, List.getElem?_cons_zero, List.getElem?_cons_succ, List.getElem?_nil, List.set_cons_zero, List.set_cons_succ, List.set_nil, atI_0, atI_1, atI_2, atI_3, atI_4, ixN_0, ixN_1, ixN_2, plnL_dats, frzL_dats, allK_map, anyK_map, sumK_map, eqv_int, eqOk_int, eqOk_none, eqOk_bool, eqOk_str, bkOk, putBack, adr, pick, List.getD_cons_zero, List.getD_cons_succ, redat, wipeD, true_and, and_true, if_true, if_false, ite_true, ite_false, Bool.true_and, Bool.and_true, Bool.false_and, Bool.not_true, Bool.not_false, Option.getD_some, encD, encB]
    refine ⟨by decide, by decide, fun y hy => (by cases hy), ?_⟩
    rw [if_pos (by cases bs <;> simp at b1 ⊢)]
    refine for_inv (fun k S => ∃ s4 s5, S = [some (.dat (.list (bs.map encO))), some (.dat (.list (ps.map .int))), some (.dat (encO (tk (bs.zip ps) k).1)), some (.dat (.int (tk (bs.zip ps) k).2)), s4, s5]) _ 0 _ ?_ ⟨_, _, rfl⟩ ?_
    · rintro k d S hd ⟨s4, s5, rfl⟩ N hN
      obtain ⟨e, he, rfl⟩ := enumD_get hd
      simp only [List.getElem?_map, Option.map_eq_some_iff] at he
      obtain ⟨b, hbk, rfl⟩ := he
      have hlt : k < bs.length := (List.getElem?_eq_some_iff.mp hbk).1
      have hp : ps[k]? = some ps[k] := List.getElem?_eq_getElem (by omega)
      have hz := zip_get hbk hp
      simp only [Nat.zero_add] at hN ⊢
      cases b with
      | none =>
        rw [tk_none hz] at hN
        simp only [dSeq, dNext, dIf, dRet, dRetN, dSet, dDrop, dC, dVar, dMv, dOp, dTest, dTru, dNot, dAnd, dOr, dAndV, dOrV, dNotV, dIfE, dCons, dNil, dLst, dTup, dFrz, dNeg, dChain, dIx, dIxS, dCa, dIsi, dIsi2, dAsg, dgName, dgTup, dgCons, dgNil, dwSeq, dwTup, dwRng1, dwRng2, dwEnum, dwZip, zipD_map, eqv_strS, plnL_T, frzL_T, dListOf, dIsN, dNotN, tN, dCat, dSl, dNoPart, dPart, dFor, dSetIx, dApp, dCall, dCallK, dPar, dOrT, dAndT, dYes, bodyE, keepPs, keepP, addK, subK, mulK, fdivK, modK, powK, ltK, leK, gtK, geK, eqK, neK, isK, isNotK, isNone, ixK, lenK, maxK, minK, absK, intK, strK, isIn_int, isIn_bool, isIn_list, isIn_tuple, isIn_str, truD, DL.T.frz, DL.T.pln, frzL, plnL, List.map_cons, List.map_nil, List.length_cons, List.length_nil, List.replicate_succ, List.replicate_zero, List.cons_append, List.nil_append, List.append_nil, List.getElem?_cons_zero, List.getElem?_cons_succ, List.getElem?_nil, List.set_cons_zero, List.set_cons_succ, List.set_nil, atI_0, atI_1, atI_2, atI_3, atI_4, ixN_0, ixN_1, ixN_2, plnL_dats, frzL_dats, allK_map, anyK_map, sumK_map, eqv_int, eqOk_int, eqOk_none, eqOk_bool, eqOk_str, bkOk, putBack, adr, pick, List.getD_cons_zero, List.getD_cons_succ, redat, wipeD, true_and, and_true, if_true, if_false, ite_true, ite_false, Bool.true_and, Bool.and_true, Bool.false_and, Bool.not_true, Bool.not_false, Option.getD_some, encO, isNone, Bool.false_eq_true]
        exact ⟨by decide, by decide, hN _ ⟨_, _, rfl⟩⟩
      | some w =>
        rw [tk_some hz] at hN
        simp only [dSeq, dNext, dIf, dRet, dRetN, dSet, dDrop, dC, dVar, dMv, dOp, dTest, dTru, dNot, dAnd, dOr, dAndV, dOrV, dNotV, dIfE, dCons, dNil, dLst, dTup, dFrz, dNeg, dChain, dIx, dIxS, dCa, dIsi, dIsi2, dAsg, dgName, dgTup, dgCons, dgNil, dwSeq, dwTup, dwRng1, dwRng2, dwEnum, dwZip, zipD_map, eqv_strS, plnL_T, frzL_T, dListOf, dIsN, dNotN, tN, dCat, dSl, dNoPart, dPart, dFor, dSetIx, dApp, dCall, dCallK, dPar, dOrT, dAndT, dYes, bodyE, keepPs, keepP, addK, subK, mulK, fdivK, modK, powK, ltK, leK, gtK, geK, eqK, neK, isK, isNotK, isNone, ixK, lenK, maxK, minK, absK, intK, strK, isIn_int, isIn_bool, isIn_list, isIn_tuple, isIn_str, truD, DL.T.frz, DL.T.pln, frzL, plnL, List.map_cons, List.map_nil, List.length_cons, List.length_nil, List.replicate_succ, List.replicate_zero, List.cons_append, List.nil_append, List.append_nil, List.getElem?_cons_zero, List.getElem?_cons_succ, List.getElem?_nil, List.set_cons_zero, List.set_cons_succ, List.set_nil, atI_0, atI_1, atI_2, atI_3, atI_4, ixN_0, ixN_1, ixN_2, plnL_dats, frzL_dats, allK_map, anyK_map, sumK_map, eqv_int, eqOk_int, eqOk_none, eqOk_bool, eqOk_str, bkOk, putBack, adr, pick, List.getD_cons_zero, List.getD_cons_succ, redat, wipeD, true_and, and_true, if_true, if_false, ite_true, ite_false, Bool.true_and, Bool.and_true, Bool.false_and, Bool.not_true, Bool.not_false, Option.getD_some, encO, isNone, atI_nat', List.getElem?_map, hp, Option.map_some]
        refine ⟨by decide, by decide, ?_⟩
        by_cases hw : w - ps[k] > (tk (bs.zip ps) k).2
        · rw [if_pos hw] at hN
          rw [if_pos (by simp only [decide_eq_true_eq]; exact hw)]
          exact ⟨by decide, by decide, hN _ ⟨_, _, rfl⟩⟩
        · rw [if_neg hw] at hN
          rw [if_neg (by simp only [decide_eq_true_eq]; exact hw)]
          exact hN _ ⟨_, _, rfl⟩
    · rintro S ⟨s4, s5, rfl⟩
      rw [enumD_len, List.length_map, Nat.zero_add]
      simp only [dSeq, dNext, dIf, dRet, dRetN, dSet, dDrop, dC, dVar, dMv, dOp, dTest, dTru, dNot, dAnd, dOr, dAndV, dOrV, dNotV, dIfE, dCons, dNil, dLst, dTup, dFrz, dNeg, dChain, dIx, dIxS, dCa, dIsi, dIsi2, dAsg, dgName, dgTup, dgCons, dgNil, dwSeq, dwTup, dwRng1, dwRng2, dwEnum, dwZip, zipD_map, eqv_strS, plnL_T, frzL_T, dListOf, dIsN, dNotN, tN, dCat, dSl, dNoPart, dPart, dFor, dSetIx, dApp, dCall, dCallK, dPar, dOrT, dAndT, dYes, bodyE, keepPs, keepP, addK, subK, mulK, fdivK, modK, powK, ltK, leK, gtK, geK, eqK, neK, isK, isNotK, isNone, ixK, lenK, maxK, minK, absK, intK, strK, isIn_int, isIn_bool, isIn_list, isIn_tuple, isIn_str, truD, DL.T.frz, DL.T.pln, frzL, plnL, List.map_cons, List.map_nil, List.length_cons, List.length_nil, List.replicate_succ, List.replicate_zero, List.cons_append, List.nil_append, List.append_nil, List.getElem?_cons_zero, List.getElem?_cons_succ, List.getElem?_nil, List.set_cons_zero, List.set_cons_succ, List.set_nil, atI_0, atI_1, atI_2, atI_3, atI_4, ixN_0, ixN_1, ixN_2, plnL_dats, frzL_dats, allK_map, anyK_map, sumK_map, eqv_int, eqOk_int, eqOk_none, eqOk_bool, eqOk_str, bkOk, putBack, adr, pick, List.getD_cons_zero, List.getD_cons_succ, redat, wipeD, true_and, and_true, if_true, if_false, ite_true, ite_false, Bool.true_and, Bool.and_true, Bool.false_and, Bool.not_true, Bool.not_false, Option.getD_some]
      exact h
def sp_buyer_of : FSp := fun As Q => ∃ (m : Mart) (k r : Nat) (b : Option (List (Option Int))), WF m ∧ m.days[k]? = some b ∧ As = [.dat (encM m), .dat (.int (k + m.days.length * r))] ∧ Q (.dat (encD b)) [none, none]
theorem ok_buyer_of (tx : Txt K mg A) : FnOk P w K mg base CX0 1 A.a_buyer_of A.d_buyer_of ["market", "day"] (spD K 2 sp_buyer_of) := by
  refine fn_okD (N := ["market", "day"]) (k := 0) (sp := sp_buyer_of) tx.F_buyer_of sc_buyer_of ?_
  intro cdv Ar outer s H E hr
  refine Exists.intro _ (And.intro (pssd_one (psd_ret (pd_ix (pd_ix (pdv 0) pd_int) (pd_op od_mod (pdv 1) (pd_callB ca_len (by rfl) tx.n_len (by decide +kernel) (pad_cons (pd_ix (pdv 0) pd_int) pad_nil)))))) ?_)
  intro As Qd hl h
  obtain ⟨m, k, r, b, hm, hk, rfl, h⟩ := h
  have hlt : k < m.days.length := (List.getElem?_eq_some_iff.mp hk).1
  have e : ((k : Int) + m.days.length * r) % (m.days.length : Int) = (k : Int) := by
    rw [Int.add_mul_emod_self_left]
    exact Int.emod_eq_of_lt (by omega) (by omega)
  simp only [dSeq, dNext, dIf, dRet, dRetN, dSet, dDrop, dC, dVar, dMv, dOp, dTest, dTru, dNot, dAnd, dOr, dAndV, dOrV, dNotV, dIfE, dCons, dNil, dLst, dTup, dFrz, dNeg, dChain, dIx, dIxS, dCa, dIsi, dIsi2, dAsg, dgName, dgTup, dgCons, dgNil, dwSeq, dwTup, dwRng1, dwRng2, dwEnum, dwZip, zipD_map, eqv_strS, plnL_T, frzL_T, dListOf, dIsN, dNotN, tN, dCat, dSl, dNoPart, dPart, dFor, dSetIx, dApp, dCall, dCallK, dPar, dOrT, dAndT, dYes, bodyE, keepPs, keepP, addK, subK, mulK, fdivK, modK, powK, ltK, leK, gtK, geK, eqK, neK, isK, isNotK, isNone, ixK, lenK, maxK, minK, absK, intK, strK, isIn_int, isIn_bool, isIn_list, isIn_tuple, isIn_str, truD, DL.T.frz, DL.T.pln, frzL, plnL, List.map_cons, List.map_nil, List.length_cons, List.length_nil, List.replicate_succ, List.replicate_zero, List.cons_append, List.nil_append, List.append_nil, List.getElem?_cons_zero, List.getElem?_cons_succ, List.getElem?_nil, List.set_cons_zero, List.set_cons_succ, List.set_nil, atI_0, atI_1, atI_2, atI_3, atI_4, ixN_0, ixN_1, ixN_2, plnL_dats, frzL_dats, allK_map, anyK_map, sumK_map, eqv_int, eqOk_int, eqOk_none, eqOk_bool, eqOk_str, bkOk, putBack, adr, pick, List.getD_cons_zero, List.getD_cons_succ, redat, wipeD, true_and, and_true, if_true, if_false, ite_true, ite_false, Bool.true_and, Bool.and_true, Bool.false_and, Bool.not_true, Bool.not_false, Option.getD_some, encM, List.length_map, e, atI_nat', List.getElem?_map, hk, Option.map_some]
  exact ⟨by omega, h⟩
def takeOf (m : Mart) (ps : List Int) (k : Nat) : Option Int := match m.days[k]? with
  | some b => takeD b ps
  | none => none
def sp_take_of : FSp := fun As Q => ∃ (m : Mart) (ps : List Int) (k r : Nat), WF m ∧ k < m.days.length ∧ As = [.dat (encM m), .dat (.list (ps.map .int)), .dat (.int (k + m.days.length * r))] ∧ ps.length = m.goods.length ∧ (∀ p ∈ ps, -1000000 ≤ p ∧ p ≤ 1000000) ∧ Q (.dat (encO (takeOf m ps k))) [none, none, none]
theorem ok_take_of (tx : Txt K mg A) : FnOk P w K mg base CX0 6 A.a_take_of A.d_take_of ["market", "prices", "day"] (spD K 3 sp_take_of) := by
  refine fn_okD (N := ["market", "prices", "day"]) (k := 5) (sp := sp_take_of) tx.F_take_of sc_take_of ?_
  intro cdv Ar outer s H E hr
  obtain ⟨_, h_bd_need_day_1⟩ := bd_need_day_1 tx
  refine Exists.intro _ (And.intro (pssd_cons (psd_expr (pd_call (dv := []) (dvs := []) (ok_need_market tx) (hr.mono (by decide)) (by rfl) tx.F_need_market.g tx.F_need_market.F.kp (b_need_market tx) .nil rfl [] (pad_cons (pdv 0) pad_nil))) (pssd_cons (psd_expr (pd_call (dv := []) (dvs := []) (ok_need_prices tx) (hr.mono (by decide)) (by rfl) tx.F_need_prices.g tx.F_need_prices.F.kp (b_need_prices tx) .nil rfl [] (pad_cons (pdv 0) (pad_cons (pdv 1) pad_nil)))) (pssd_cons (psd_expr (pd_call (dv := [.none]) (dvs := [.non]) (ok_need_day tx) (hr.mono (by decide)) (by rfl) tx.F_need_day.g tx.F_need_day.F.kp h_bd_need_day_1.2 h_bd_need_day_1.1 rfl [] (pad_cons (pdv 2) pad_nil))) (pssd_one (psd_ret (pd_call (dv := []) (dvs := []) (ok_taken tx) (hr.mono (by decide)) (by rfl) tx.F_taken.g tx.F_taken.F.kp (b_taken tx) .nil rfl [] (pad_cons (pd_call (dv := []) (dvs := []) (ok_buyer_of tx) (hr.mono (by decide)) (by rfl) tx.F_buyer_of.g tx.F_buyer_of.F.kp (b_buyer_of tx) .nil rfl [] (pad_cons (pdv 0) (pad_cons (pdv 2) pad_nil))) (pad_cons (pdv 1) pad_nil)))))))) ?_)
  intro As Qd hl h
  obtain ⟨m, ps, k, r, hm, hk, rfl, hl1, hps, h⟩ := h
  have hM := marketD_enc hm
  have hb : m.days[k]? = some m.days[k] := List.getElem?_eq_getElem hk
  have h0 : (0 : Int) ≤ (k : Int) + m.days.length * r := by
    have := Int.mul_nonneg (show (0 : Int) ≤ m.days.length by omega) (show (0 : Int) ≤ r by omega)
    omega
  simp only [encM] at hM
  simp only [dSeq, dNext, dIf, dRet, dRetN, dSet, dDrop, dC, dVar, dMv, dOp, dTest, dTru, dNot, dAnd, dOr, dAndV, dOrV, dNotV, dIfE, dCons, dNil, dLst, dTup, dFrz, dNeg, dChain, dIx, dIxS, dCa, dIsi, dIsi2, dAsg, dgName, dgTup, dgCons, dgNil, dwSeq, dwTup, dwRng1, dwRng2, dwEnum, dwZip, zipD_map, eqv_strS, plnL_T, frzL_T, dListOf, dIsN, dNotN, tN, dCat, dSl, dNoPart, dPart, dFor, dSetIx, dApp, dCall, dCallK, dPar, dOrT, dAndT, dYes, bodyE, keepPs, keepP, addK, subK, mulK, fdivK, modK, powK, ltK, leK, gtK, geK, eqK, neK, isK, isNotK, isNone, ixK, lenK, maxK, minK, absK, intK, strK, isIn_int, isIn_bool, isIn_list, isIn_tuple, isIn_str, truD, DL.T.frz, DL.T.pln, frzL, plnL, List.map_cons, List.map_nil, List.length_cons, List.length_nil, List.replicate_succ, List.replicate_zero, List.cons_append, List.nil_append, List.append_nil, List.getElem?_cons_zero, List.getElem?_cons_succ, List.getElem?_nil, List.set_cons_zero, List.set_cons_succ, List.set_nil, atI_0, atI_1, atI_2, atI_3, atI_4, ixN_0, ixN_1, ixN_2, plnL_dats, frzL_dats, allK_map, anyK_map, sumK_map, eqv_int, eqOk_int, eqOk_none, eqOk_bool, eqOk_str, bkOk, putBack, adr, pick, List.getD_cons_zero, List.getD_cons_succ, redat, wipeD, true_and, and_true, if_true, if_false, ite_true, ite_false, Bool.true_and, Bool.and_true, Bool.false_and, Bool.not_true, Bool.not_false, Option.getD_some, sp_need_market, sp_need_prices, sp_need_day, encM]
  refine ⟨hM, m, ps, hm, rfl, hl1, hps, rfl, by simp [wholeD, h0], ?_⟩
  simp only [sp_buyer_of]
  refine ⟨m, k, r, _, hm, hb, rfl, ?_⟩
  simp only [dSeq, dNext, dIf, dRet, dRetN, dSet, dDrop, dC, dVar, dMv, dOp, dTest, dTru, dNot, dAnd, dOr, dAndV, dOrV, dNotV, dIfE, dCons, dNil, dLst, dTup, dFrz, dNeg, dChain, dIx, dIxS, dCa, dIsi, dIsi2, dAsg, dgName, dgTup, dgCons, dgNil, dwSeq, dwTup, dwRng1, dwRng2, dwEnum, dwZip, zipD_map, eqv_strS, plnL_T, frzL_T, dListOf, dIsN, dNotN, tN, dCat, dSl, dNoPart, dPart, dFor, dSetIx, dApp, dCall, dCallK, dPar, dOrT, dAndT, dYes, bodyE, keepPs, keepP, addK, subK, mulK, fdivK, modK, powK, ltK, leK, gtK, geK, eqK, neK, isK, isNotK, isNone, ixK, lenK, maxK, minK, absK, intK, strK, isIn_int, isIn_bool, isIn_list, isIn_tuple, isIn_str, truD, DL.T.frz, DL.T.pln, frzL, plnL, List.map_cons, List.map_nil, List.length_cons, List.length_nil, List.replicate_succ, List.replicate_zero, List.cons_append, List.nil_append, List.append_nil, List.getElem?_cons_zero, List.getElem?_cons_succ, List.getElem?_nil, List.set_cons_zero, List.set_cons_succ, List.set_nil, atI_0, atI_1, atI_2, atI_3, atI_4, ixN_0, ixN_1, ixN_2, plnL_dats, frzL_dats, allK_map, anyK_map, sumK_map, eqv_int, eqOk_int, eqOk_none, eqOk_bool, eqOk_str, bkOk, putBack, adr, pick, List.getD_cons_zero, List.getD_cons_succ, redat, wipeD, true_and, and_true, if_true, if_false, ite_true, ite_false, Bool.true_and, Bool.and_true, Bool.false_and, Bool.not_true, Bool.not_false, Option.getD_some, sp_taken]
  refine ⟨m.days[k], ps, rfl, fun bs hbs => ?_, ?_⟩
  · have := hm.ds bs (List.mem_of_getElem? (by rw [hb, hbs]))
    have g1 := hm.g1
    have g4 := hm.g4
    have := this.1
    omega
  · simp only [takeOf, hb] at h
    exact h
def sp_law_till : FSp := fun As Q => ∃ (ns : List Int) (k : Int), ns.length ≤ 63 ∧ 0 ≤ k ∧ k ≤ 1000 ∧ As = [.dat (.list (ns.map .int)), .dat (.int k)] ∧ ∀ a x y, TillB 0 x y 0 → Q (till a x y 0) [none, none]
theorem ok_law_till (tx : Txt K mg A) : FnOk P w K mg base CX0 1 A.a_law_till A.d_law_till ["script", "k"] (spD K 2 sp_law_till) := by
  refine fn_okD (N := ["script", "k", "cell"]) (k := 0) (sp := sp_law_till) tx.F_law_till sc_law_till ?_
  intro cdv Ar outer s H E hr
  refine Exists.intro _ (And.intro (pssd_cons (psd_set (i := 2) sc_law_till.nd (pd_ifE (ptd_cmp od_lt (pdv 1) (pd_callB ca_len (by rfl) tx.n_len (by decide +kernel) (pad_cons (pdv 0) pad_nil))) (pd_ix (pdv 0) (pdv 1)) pd_int)) (pssd_one (psd_ret (pd_lst (pad_cons (pd_callB (ca_max (by rfl)) (by rfl) tx.n_max (by decide +kernel) (pad_cons pd_int (pad_cons (pd_op od_sub (pdv 2) (pd_op od_pow pd_int pd_int)) pad_nil))) (pad_cons (pd_op od_add (pd_op od_mod (pdv 2) (pd_op od_add (pd_op od_pow pd_int pd_int) pd_int)) (pd_op od_mul (pd_op od_pow pd_int pd_int) (pd_op od_add (pdv 1) pd_int))) (pad_cons pd_int pad_nil))))))) ?_)
  intro As Qd hl h
  obtain ⟨ns, k, hns, h0, h1, rfl, h⟩ := h
  have key : ∀ cell : Int, (CMulW (10 ^ 12) (k + 1)) ∧ TillB 0 (if cell - 10 ^ 18 > 0 then cell - 10 ^ 18 else 0) (cell % (10 ^ 43 + 57) + 10 ^ 12 * (k + 1)) 0 := by
    intro cell
    refine ⟨mul_ok 41 11 (by decide) (by decide) (by omega) (by omega), ?_, ⟨?_, ?_⟩, Int.le_refl _, Int.le_refl _⟩
    · split <;> omega
    · have := Int.emod_nonneg cell (show (10 ^ 43 + 57 : Int) ≠ 0 by decide)
      omega
    · have := Int.emod_lt_of_pos cell (show (0 : Int) < 10 ^ 43 + 57 by decide)
      omega
  simp only [dSeq, dNext, dIf, dRet, dRetN, dSet, dDrop, dC, dVar, dMv, dOp, dTest, dTru, dNot, dAnd, dOr, dAndV, dOrV, dNotV, dIfE, dCons, dNil, dLst, dTup, dFrz, dNeg, dChain, dIx, dIxS, dCa, dIsi, dIsi2, dAsg, dgName, dgTup, dgCons, dgNil, dwSeq, dwTup, dwRng1, dwRng2, dwEnum, dwZip, zipD_map, eqv_strS, plnL_T, frzL_T, dListOf, dIsN, dNotN, tN, dCat, dSl, dNoPart, dPart, dFor, dSetIx, dApp, dCall, dCallK, dPar, dOrT, dAndT, dYes, bodyE, keepPs, keepP, addK, subK, mulK, fdivK, modK, powK, ltK, leK, gtK, geK, eqK, neK, isK, isNotK, isNone, ixK, lenK, maxK, minK, absK, intK, strK, isIn_int, isIn_bool, isIn_list, isIn_tuple, isIn_str, truD, DL.T.frz, DL.T.pln, frzL, plnL, List.map_cons, List.map_nil, List.length_cons, List.length_nil, List.replicate_succ, List.replicate_zero, List.cons_append, List.nil_append, List.append_nil, List.getElem?_cons_zero, List.getElem?_cons_succ, List.getElem?_nil, List.set_cons_zero, List.set_cons_succ, List.set_nil, atI_0, atI_1, atI_2, atI_3, atI_4, ixN_0, ixN_1, ixN_2, plnL_dats, frzL_dats, allK_map, anyK_map, sumK_map, eqv_int, eqOk_int, eqOk_none, eqOk_bool, eqOk_str, bkOk, putBack, adr, pick, List.getD_cons_zero, List.getD_cons_succ, redat, wipeD, true_and, and_true, if_true, if_false, ite_true, ite_false, Bool.true_and, Bool.and_true, Bool.false_and, Bool.not_true, Bool.not_false, Option.getD_some, List.length_map]
  by_cases hk : k < (ns.length : Int)
  · have hat : ∃ n, atI (ns.map PyData.int) k = some (.int n) := by
      have := atI_nat' (xs := ns.map PyData.int) (i := k.toNat)
      rw [Int.toNat_of_nonneg h0] at this
      rw [this, List.getElem?_map]
      have hl : k.toNat < ns.length := by omega
      rw [List.getElem?_eq_getElem hl]
      exact ⟨_, rfl⟩
    obtain ⟨n, hn⟩ := hat
    obtain ⟨h2, h3⟩ := key n
    simp [hk, hn, dSeq, dNext, dIf, dRet, dRetN, dSet, dDrop, dC, dVar, dMv, dOp, dTest, dTru, dNot, dAnd, dOr, dAndV, dOrV, dNotV, dIfE, dCons, dNil, dLst, dTup, dFrz, dNeg, dChain, dIx, dIxS, dCa, dIsi, dIsi2, dAsg, dgName, dgTup, dgCons, dgNil, dwSeq, dwTup, dwRng1, dwRng2, dwEnum, dwZip, zipD_map, eqv_strS, plnL_T, frzL_T, dListOf, dIsN, dNotN, tN, dCat, dSl, dNoPart, dPart, dFor, dSetIx, dApp, dCall, dCallK, dPar, dOrT, dAndT, dYes, bodyE, keepPs, keepP, addK, subK, mulK, fdivK, modK, powK, ltK, leK, gtK, geK, eqK, neK, isK, isNotK, isNone, ixK, lenK, maxK, minK, absK, intK, strK, isIn_int, isIn_bool, isIn_list, isIn_tuple, isIn_str, truD, DL.T.frz, DL.T.pln, frzL, plnL, List.map_cons, List.map_nil, List.length_cons, List.length_nil, List.replicate_succ, List.replicate_zero, List.cons_append, List.nil_append, List.append_nil, List.getElem?_cons_zero, List.getElem?_cons_succ, List.getElem?_nil, List.set_cons_zero, List.set_cons_succ, List.set_nil, atI_0, atI_1, atI_2, atI_3, atI_4, ixN_0, ixN_1, ixN_2, plnL_dats, frzL_dats, allK_map, anyK_map, sumK_map, eqv_int, eqOk_int, eqOk_none, eqOk_bool, eqOk_str, bkOk, putBack, adr, pick, List.getD_cons_zero, List.getD_cons_succ, redat, wipeD, true_and, and_true, if_true, if_false, ite_true, ite_false, Bool.true_and, Bool.and_true, Bool.false_and, Bool.not_true, Bool.not_false, Option.getD_some]
    simp at h2 h3
    exact ⟨by decide, by decide, by decide, h2, by decide, fun p => h p _ _ h3⟩
  · obtain ⟨h2, h3⟩ := key 0
    simp [hk, dSeq, dNext, dIf, dRet, dRetN, dSet, dDrop, dC, dVar, dMv, dOp, dTest, dTru, dNot, dAnd, dOr, dAndV, dOrV, dNotV, dIfE, dCons, dNil, dLst, dTup, dFrz, dNeg, dChain, dIx, dIxS, dCa, dIsi, dIsi2, dAsg, dgName, dgTup, dgCons, dgNil, dwSeq, dwTup, dwRng1, dwRng2, dwEnum, dwZip, zipD_map, eqv_strS, plnL_T, frzL_T, dListOf, dIsN, dNotN, tN, dCat, dSl, dNoPart, dPart, dFor, dSetIx, dApp, dCall, dCallK, dPar, dOrT, dAndT, dYes, bodyE, keepPs, keepP, addK, subK, mulK, fdivK, modK, powK, ltK, leK, gtK, geK, eqK, neK, isK, isNotK, isNone, ixK, lenK, maxK, minK, absK, intK, strK, isIn_int, isIn_bool, isIn_list, isIn_tuple, isIn_str, truD, DL.T.frz, DL.T.pln, frzL, plnL, List.map_cons, List.map_nil, List.length_cons, List.length_nil, List.replicate_succ, List.replicate_zero, List.cons_append, List.nil_append, List.append_nil, List.getElem?_cons_zero, List.getElem?_cons_succ, List.getElem?_nil, List.set_cons_zero, List.set_cons_succ, List.set_nil, atI_0, atI_1, atI_2, atI_3, atI_4, ixN_0, ixN_1, ixN_2, plnL_dats, frzL_dats, allK_map, anyK_map, sumK_map, eqv_int, eqOk_int, eqOk_none, eqOk_bool, eqOk_str, bkOk, putBack, adr, pick, List.getD_cons_zero, List.getD_cons_succ, redat, wipeD, true_and, and_true, if_true, if_false, ite_true, ite_false, Bool.true_and, Bool.and_true, Bool.false_and, Bool.not_true, Bool.not_false, Option.getD_some]
    simp at h2 h3
    exact ⟨by decide, by decide, by decide, h2, by decide, fun p => h p _ _ h3⟩
def sp_law_pull : FSp := fun As Q => ∃ a n x y c many, As = [till a x y c, .dat (.int many)] ∧ TillB n x y c ∧ n ≤ 1000000 ∧ 1 ≤ many ∧ many ≤ 10 ^ 20 ∧
  ∀ r x' y' c', 0 ≤ r → r < many → TillB (n + 1) x' y' c' → Q (.dat (.int r)) [some (till a x' y' c'), none]
theorem ok_law_pull (tx : Txt K mg A) : FnOk P w K mg base CX0 1 A.a_law_pull A.d_law_pull ["till", "many"] (spD K 2 sp_law_pull) := by
  refine fn_okD (N := ["till", "many", "found", "stirred"]) (k := 0) (sp := sp_law_pull) tx.F_law_pull sc_law_pull ?_
  intro cdv Ar outer s H E hr
  refine Exists.intro _ (And.intro (pssd_cons (psd_if (ptd_cmp od_gt (pd_ixS 0 pd_int) pd_int) (pssd_cons (psd_set (i := 2) sc_law_pull.nd (pd_op od_mod (pd_ixS 0 pd_int) (pdv 1))) (pssd_cons (psd_setIx 0 (pd_op od_fdiv (pd_ixS 0 pd_int) (pdv 1)) pd_int) (pssd_one (psd_ret (pdv 2))))) pssd_nil) (pssd_cons (psd_setIx 0 (pd_op od_add (pd_ixS 0 pd_int) pd_int) pd_int) (pssd_cons (psd_set (i := 3) sc_law_pull.nd (pd_op od_mod (pd_op od_pow (pd_op od_add (pd_ixS 0 pd_int) (pd_op od_mul pd_int (pd_op od_pow (pd_ixS 0 pd_int) pd_int))) pd_int) (pd_op od_add (pd_op od_pow pd_int pd_int) pd_int))) (pssd_cons (psd_set (i := 3) sc_law_pull.nd (pd_op od_mod (pd_op od_pow (pd_op od_add (pdv 3) (pd_op od_mul pd_int (pd_ixS 0 pd_int))) pd_int) (pd_op od_add (pd_op od_pow pd_int pd_int) pd_int))) (pssd_one (psd_ret (pd_op od_mod (pd_op od_fdiv (pdv 3) pd_int) (pdv 1)))))))) ?_)
  intro As Qd hl h
  obtain ⟨a, n, x, y, c, many, rfl, ⟨hx, ⟨hy0, hy1⟩, hc0, hc1⟩, hn, hm0, hm1, h⟩ := h
  simp only [dSeq, dNext, dIf, dRet, dRetN, dSet, dDrop, dC, dVar, dMv, dOp, dTest, dTru, dNot, dAnd, dOr, dAndV, dOrV, dNotV, dIfE, dCons, dNil, dLst, dTup, dFrz, dNeg, dChain, dIx, dIxS, dCa, dIsi, dIsi2, dAsg, dgName, dgTup, dgCons, dgNil, dwSeq, dwTup, dwRng1, dwRng2, dwEnum, dwZip, zipD_map, eqv_strS, plnL_T, frzL_T, dListOf, dIsN, dNotN, tN, dCat, dSl, dNoPart, dPart, dFor, dSetIx, dApp, dCall, dCallK, dPar, dOrT, dAndT, dYes, bodyE, keepPs, keepP, addK, subK, mulK, fdivK, modK, powK, ltK, leK, gtK, geK, eqK, neK, isK, isNotK, isNone, ixK, lenK, maxK, minK, absK, intK, strK, isIn_int, isIn_bool, isIn_list, isIn_tuple, isIn_str, truD, DL.T.frz, DL.T.pln, frzL, plnL, List.map_cons, List.map_nil, List.length_cons, List.length_nil, List.replicate_succ, List.replicate_zero, List.cons_append, List.nil_append, List.append_nil, List.getElem?_cons_zero, List.getElem?_cons_succ, List.getElem?_nil, List.set_cons_zero, List.set_cons_succ, List.set_nil, atI_0, atI_1, atI_2, atI_3, atI_4, ixN_0, ixN_1, ixN_2, plnL_dats, frzL_dats, allK_map, anyK_map, sumK_map, eqv_int, eqOk_int, eqOk_none, eqOk_bool, eqOk_str, bkOk, putBack, adr, pick, List.getD_cons_zero, List.getD_cons_succ, redat, wipeD, true_and, and_true, if_true, if_false, ite_true, ite_false, Bool.true_and, Bool.and_true, Bool.false_and, Bool.not_true, Bool.not_false, Option.getD_some, till]
  simp
  by_cases hp : 0 < x
  · simp only [hp, if_true]
    have r0 := Int.emod_nonneg x (show many ≠ 0 by omega)
    have r1 := Int.emod_lt_of_pos x (show 0 < many by omega)
    have d0 : 0 ≤ x / many := Int.ediv_nonneg hx (by omega)
    have hd : CDivW x many := div_ok 100 (by omega) (by omega)
    refine ⟨by omega, hd, ?_⟩
    exact h _ _ _ _ r0 r1 ⟨d0, ⟨hy0, hy1⟩, hc0, by omega⟩
  · simp only [hp, if_false]
    generalize hc : c + 1 = e
    have e0 : 0 ≤ e := by omega
    have e1 : e ≤ 1000001 := by omega
    have q0 : 0 ≤ e ^ 2 := Int.pow_nonneg e0
    have q1 : e ^ 2 ≤ 1000001 * 1000001 := by
      rw [Int.pow_succ, Int.pow_succ, Int.pow_zero, Int.one_mul]
      exact Int.mul_le_mul e1 e1 e0 (by decide)
    generalize e ^ 2 = q at q0 q1 ⊢
    have b0 : 0 ≤ y + 15485867 * q := by omega
    have b1 : y + 15485867 * q < 2 ^ 160 := by omega
    generalize y + 15485867 * q = b at b0 b1 ⊢
    have s0 : 0 ≤ b ^ 3 % 10000000000000000000000000000000000043 := Int.emod_nonneg _ (by decide)
    have s1 : b ^ 3 % 10000000000000000000000000000000000043 < 10000000000000000000000000000000000043 := Int.emod_lt_of_pos _ (by decide)
    generalize b ^ 3 % 10000000000000000000000000000000000043 = st at s0 s1 ⊢
    have t0 : 0 ≤ st + 32416190071 * e := by omega
    have t1 : st + 32416190071 * e < 2 ^ 160 := by omega
    generalize st + 32416190071 * e = v at t0 t1 ⊢
    have u0 : 0 ≤ v ^ 5 % 10000000000000000000000000000000193 := Int.emod_nonneg _ (by decide)
    generalize v ^ 5 % 10000000000000000000000000000000193 = z at u0 ⊢
    have r0 := Int.emod_nonneg (z / 999983) (show many ≠ 0 by omega)
    have r1 := Int.emod_lt_of_pos (z / 999983) (show 0 < many by omega)
    have p1 := (pow_ok (i := e) (j := 2) 30 e0 (by omega) (by decide) (by decide)).2
    have p2 := (pow_ok (i := b) (j := 3) 160 b0 b1 (by decide) (by decide)).2
    have p3 := (pow_ok (i := v) (j := 5) 160 t0 t1 (by decide) (by decide)).2
    have m1 : CMulW 15485867 q := mul_ok 30 60 (by decide) (by decide) q0 (by omega)
    have m2 : CMulW 32416190071 e := mul_ok 40 30 (by decide) (by decide) e0 (by omega)
    have d1 : CDivW z 999983 := div_ok 30 (by decide) (by decide)
    have fin := h _ _ _ e r0 r1 ⟨hx, ⟨hy0, hy1⟩, e0, by omega⟩
    simp at p1 p2 p3
    exact ⟨p1, m1, p2, by decide, m2, p3, by decide, d1, by omega, fin⟩
def sp_law_near : FSp := fun As Q => ∃ a n x y c, As = [till a x y c] ∧ TillB n x y c ∧ n ≤ 900000 ∧
  ∀ w x' y' c', -99 ≤ w → w ≤ 99 → TillB (n + 3) x' y' c' → Q (.dat (.int w)) [some (till a x' y' c')]
theorem ok_law_near (tx : Txt K mg A) : FnOk P w K mg base CX0 2 A.a_law_near A.d_law_near ["till"] (spD K 1 sp_law_near) := by
  refine fn_okD (N := ["till", "about"]) (k := 1) (sp := sp_law_near) tx.F_law_near sc_law_near ?_
  intro cdv Ar outer s H E hr
  refine Exists.intro _ (And.intro (pssd_cons (psd_set (i := 1) sc_law_near.nd (pd_op od_sub (pd_call (dv := []) (dvs := []) (ok_law_pull tx) (hr.mono (by decide)) (by rfl) tx.F_law_pull.g tx.F_law_pull.F.kp (b_law_pull tx) .nil rfl [(0, 0)] (pad_cons (pdm 0) (pad_cons pd_int pad_nil))) pd_int)) (pssd_one (psd_ret (pd_ix (pd_frz (pd_lst (pad_cons (pdv 1) (pad_cons (pdv 1) (pad_cons (pd_op od_sub (pd_call (dv := []) (dvs := []) (ok_law_pull tx) (hr.mono (by decide)) (by rfl) tx.F_law_pull.g tx.F_law_pull.F.kp (b_law_pull tx) .nil rfl [(0, 0)] (pad_cons (pdm 0) (pad_cons pd_int pad_nil))) pd_int) (pad_cons pd_int (pad_cons (pd_neg pd_int) pad_nil))))))) (pd_call (dv := []) (dvs := []) (ok_law_pull tx) (hr.mono (by decide)) (by rfl) tx.F_law_pull.g tx.F_law_pull.F.kp (b_law_pull tx) .nil rfl [(0, 0)] (pad_cons (pdm 0) (pad_cons pd_int pad_nil))))))) ?_)
  intro As Qd hl h
  obtain ⟨a, n, x, y, c, rfl, ht, hn, h⟩ := h
  simp only [dSeq, dNext, dIf, dRet, dRetN, dSet, dDrop, dC, dVar, dMv, dOp, dTest, dTru, dNot, dAnd, dOr, dAndV, dOrV, dNotV, dIfE, dCons, dNil, dLst, dTup, dFrz, dNeg, dChain, dIx, dIxS, dCa, dIsi, dIsi2, dAsg, dgName, dgTup, dgCons, dgNil, dwSeq, dwTup, dwRng1, dwRng2, dwEnum, dwZip, zipD_map, eqv_strS, plnL_T, frzL_T, dListOf, dIsN, dNotN, tN, dCat, dSl, dNoPart, dPart, dFor, dSetIx, dApp, dCall, dCallK, dPar, dOrT, dAndT, dYes, bodyE, keepPs, keepP, addK, subK, mulK, fdivK, modK, powK, ltK, leK, gtK, geK, eqK, neK, isK, isNotK, isNone, ixK, lenK, maxK, minK, absK, intK, strK, isIn_int, isIn_bool, isIn_list, isIn_tuple, isIn_str, truD, DL.T.frz, DL.T.pln, frzL, plnL, List.map_cons, List.map_nil, List.length_cons, List.length_nil, List.replicate_succ, List.replicate_zero, List.cons_append, List.nil_append, List.append_nil, List.getElem?_cons_zero, List.getElem?_cons_succ, List.getElem?_nil, List.set_cons_zero, List.set_cons_succ, List.set_nil, atI_0, atI_1, atI_2, atI_3, atI_4, ixN_0, ixN_1, ixN_2, plnL_dats, frzL_dats, allK_map, anyK_map, sumK_map, eqv_int, eqOk_int, eqOk_none, eqOk_bool, eqOk_str, bkOk, putBack, adr, pick, List.getD_cons_zero, List.getD_cons_succ, redat, wipeD, true_and, and_true, if_true, if_false, ite_true, ite_false, Bool.true_and, Bool.and_true, Bool.false_and, Bool.not_true, Bool.not_false, Option.getD_some, sp_law_pull, till]
  refine ⟨a, n, x, y, c, 13, rfl, ht, by omega, by omega, by omega, fun r1 x1 y1 c1 r10 r11 t1 => ?_⟩
  simp only [dSeq, dNext, dIf, dRet, dRetN, dSet, dDrop, dC, dVar, dMv, dOp, dTest, dTru, dNot, dAnd, dOr, dAndV, dOrV, dNotV, dIfE, dCons, dNil, dLst, dTup, dFrz, dNeg, dChain, dIx, dIxS, dCa, dIsi, dIsi2, dAsg, dgName, dgTup, dgCons, dgNil, dwSeq, dwTup, dwRng1, dwRng2, dwEnum, dwZip, zipD_map, eqv_strS, plnL_T, frzL_T, dListOf, dIsN, dNotN, tN, dCat, dSl, dNoPart, dPart, dFor, dSetIx, dApp, dCall, dCallK, dPar, dOrT, dAndT, dYes, bodyE, keepPs, keepP, addK, subK, mulK, fdivK, modK, powK, ltK, leK, gtK, geK, eqK, neK, isK, isNotK, isNone, ixK, lenK, maxK, minK, absK, intK, strK, isIn_int, isIn_bool, isIn_list, isIn_tuple, isIn_str, truD, DL.T.frz, DL.T.pln, frzL, plnL, List.map_cons, List.map_nil, List.length_cons, List.length_nil, List.replicate_succ, List.replicate_zero, List.cons_append, List.nil_append, List.append_nil, List.getElem?_cons_zero, List.getElem?_cons_succ, List.getElem?_nil, List.set_cons_zero, List.set_cons_succ, List.set_nil, atI_0, atI_1, atI_2, atI_3, atI_4, ixN_0, ixN_1, ixN_2, plnL_dats, frzL_dats, allK_map, anyK_map, sumK_map, eqv_int, eqOk_int, eqOk_none, eqOk_bool, eqOk_str, bkOk, putBack, adr, pick, List.getD_cons_zero, List.getD_cons_succ, redat, wipeD, true_and, and_true, if_true, if_false, ite_true, ite_false, Bool.true_and, Bool.and_true, Bool.false_and, Bool.not_true, Bool.not_false, Option.getD_some, till]
  refine ⟨by decide, a, n + 1, x1, y1, c1, 199, rfl, t1, by omega, by omega, by omega, fun r2 x2 y2 c2 r20 r21 t2 => ?_⟩
  simp only [dSeq, dNext, dIf, dRet, dRetN, dSet, dDrop, dC, dVar, dMv, dOp, dTest, dTru, dNot, dAnd, dOr, dAndV, dOrV, dNotV, dIfE, dCons, dNil, dLst, dTup, dFrz, dNeg, dChain, dIx, dIxS, dCa, dIsi, dIsi2, dAsg, dgName, dgTup, dgCons, dgNil, dwSeq, dwTup, dwRng1, dwRng2, dwEnum, dwZip, zipD_map, eqv_strS, plnL_T, frzL_T, dListOf, dIsN, dNotN, tN, dCat, dSl, dNoPart, dPart, dFor, dSetIx, dApp, dCall, dCallK, dPar, dOrT, dAndT, dYes, bodyE, keepPs, keepP, addK, subK, mulK, fdivK, modK, powK, ltK, leK, gtK, geK, eqK, neK, isK, isNotK, isNone, ixK, lenK, maxK, minK, absK, intK, strK, isIn_int, isIn_bool, isIn_list, isIn_tuple, isIn_str, truD, DL.T.frz, DL.T.pln, frzL, plnL, List.map_cons, List.map_nil, List.length_cons, List.length_nil, List.replicate_succ, List.replicate_zero, List.cons_append, List.nil_append, List.append_nil, List.getElem?_cons_zero, List.getElem?_cons_succ, List.getElem?_nil, List.set_cons_zero, List.set_cons_succ, List.set_nil, atI_0, atI_1, atI_2, atI_3, atI_4, ixN_0, ixN_1, ixN_2, plnL_dats, frzL_dats, allK_map, anyK_map, sumK_map, eqv_int, eqOk_int, eqOk_none, eqOk_bool, eqOk_str, bkOk, putBack, adr, pick, List.getD_cons_zero, List.getD_cons_succ, redat, wipeD, true_and, and_true, if_true, if_false, ite_true, ite_false, Bool.true_and, Bool.and_true, Bool.false_and, Bool.not_true, Bool.not_false, Option.getD_some, till]
  refine ⟨by decide, fun p => ⟨a, n + 2, x2, y2, c2, 5, rfl, t2.mono (by omega), by omega, by omega, by omega, fun r3 x3 y3 c3 r30 r31 t3 => ?_⟩⟩
  have t3' : TillB (n + 3) x3 y3 c3 := t3.mono (by omega)
  have hr : r3 = 0 ∨ r3 = 1 ∨ r3 = 2 ∨ r3 = 3 ∨ r3 = 4 := by omega
  rcases hr with rfl | rfl | rfl | rfl | rfl <;> simp only [dSeq, dNext, dIf, dRet, dRetN, dSet, dDrop, dC, dVar, dMv, dOp, dTest, dTru, dNot, dAnd, dOr, dAndV, dOrV, dNotV, dIfE, dCons, dNil, dLst, dTup, dFrz, dNeg, dChain, dIx, dIxS, dCa, dIsi, dIsi2, dAsg, dgName, dgTup, dgCons, dgNil, dwSeq, dwTup, dwRng1, dwRng2, dwEnum, dwZip, zipD_map, eqv_strS, plnL_T, frzL_T, dListOf, dIsN, dNotN, tN, dCat, dSl, dNoPart, dPart, dFor, dSetIx, dApp, dCall, dCallK, dPar, dOrT, dAndT, dYes, bodyE, keepPs, keepP, addK, subK, mulK, fdivK, modK, powK, ltK, leK, gtK, geK, eqK, neK, isK, isNotK, isNone, ixK, lenK, maxK, minK, absK, intK, strK, isIn_int, isIn_bool, isIn_list, isIn_tuple, isIn_str, truD, DL.T.frz, DL.T.pln, frzL, plnL, List.map_cons, List.map_nil, List.length_cons, List.length_nil, List.replicate_succ, List.replicate_zero, List.cons_append, List.nil_append, List.append_nil, List.getElem?_cons_zero, List.getElem?_cons_succ, List.getElem?_nil, List.set_cons_zero, List.set_cons_succ, List.set_nil, atI_0, atI_1, atI_2, atI_3, atI_4, ixN_0, ixN_1, ixN_2, plnL_dats, frzL_dats, allK_map, anyK_map, sumK_map, eqv_int, eqOk_int, eqOk_none, eqOk_bool, eqOk_str, bkOk, putBack, adr, pick, List.getD_cons_zero, List.getD_cons_succ, redat, wipeD, true_and, and_true, if_true, if_false, ite_true, ite_false, Bool.true_and, Bool.and_true, Bool.false_and, Bool.not_true, Bool.not_false, Option.getD_some, till] <;> exact h _ _ _ _ (by omega) (by omega) t3'
def sp_law_buyer : FSp := fun As Q => ∃ a n x y c many, As = [till a x y c, .dat (.int many)] ∧ TillB n x y c ∧ n ≤ 800000 ∧ 0 ≤ many ∧ many ≤ 4 ∧
  ∀ b x' y' c', (∀ l, b = some l → WFb many.toNat l) → TillB (n + 20) x' y' c' → Q (.dat (encD b)) [some (till a x' y' c'), none]
theorem ok_law_buyer (tx : Txt K mg A) : FnOk P w K mg base CX0 3 A.a_law_buyer A.d_law_buyer ["till", "many"] (spD K 2 sp_law_buyer) := by
  refine fn_okD (N := ["till", "many", "worths", "ware"]) (k := 2) (sp := sp_law_buyer) tx.F_law_buyer sc_law_buyer ?_
  intro cdv Ar outer s H E hr
  refine Exists.intro _ (And.intro (pssd_cons (psd_setLc (i := 2) (own := [("ware", 3)]) rfl sc_law_buyer.nd rfl rfl (sw_true rfl rfl rfl (by decide +kernel)) (pid_rng1 (by rfl) tx.n_range (pad_cons (pdv 1) pad_nil)) (blkOk_by (N := ["till", "many", "worths", "ware"]) (sc := defScope s_law_buyer) (by decide +kernel)) (fun _ _ _ _ _ => (pg_name (i := 3) sc_law_buyer.nd rfl (Or.inl rfl))) (link_name (by decide)) (fun _ _ _ _ _ => ptsd_nil) (fun _ _ _ _ _ => (pd_ix (pd_frz (pd_lst (pad_cons (pd_call (dv := []) (dvs := []) (ok_law_near tx) (hr.mono (by decide)) (by rfl) tx.F_law_near.g tx.F_law_near.F.kp (b_law_near tx) .nil rfl [(0, 0)] (pad_cons (pdm 0) pad_nil)) (pad_cons pd_non pad_nil)))) (pd_callTy ca_int (by rfl) tx.n_int (by decide +kernel) (pad_cons (pd_cmp (od_eq hr.units) (pd_call (dv := []) (dvs := []) (ok_law_pull tx) (hr.mono (by decide)) (by rfl) tx.F_law_pull.g tx.F_law_pull.F.kp (b_law_pull tx) .nil rfl [(0, 0)] (pad_cons (pdm 0) (pad_cons pd_int pad_nil))) pd_int) pad_nil))))) (pssd_one (psd_ret (pd_ifE (ptd_cmp od_gt (pd_call (dv := []) (dvs := []) (ok_law_pull tx) (hr.mono (by decide)) (by rfl) tx.F_law_pull.g tx.F_law_pull.F.kp (b_law_pull tx) .nil rfl [(0, 0)] (pad_cons (pdm 0) (pad_cons pd_int pad_nil))) pd_int) (pdv 2) pd_non)))) ?_)
  intro As Qd hl h
  obtain ⟨a, n, x0, y0, c0, many, rfl, ht0, hn, hm0, hm1, h⟩ := h
  simp only [dSeq, dNext, dIf, dRet, dRetN, dSet, dDrop, dC, dVar, dMv, dOp, dTest, dTru, dNot, dAnd, dOr, dAndV, dOrV, dNotV, dIfE, dCons, dNil, dLst, dTup, dFrz, dNeg, dChain, dIx, dIxS, dCa, dIsi, dIsi2, dAsg, dgName, dgTup, dgCons, dgNil, dwSeq, dwTup, dwRng1, dwRng2, dwEnum, dwZip, zipD_map, eqv_strS, plnL_T, frzL_T, dListOf, dIsN, dNotN, tN, dCat, dSl, dNoPart, dPart, dFor, dSetIx, dApp, dCall, dCallK, dPar, dOrT, dAndT, dYes, bodyE, keepPs, keepP, addK, subK, mulK, fdivK, modK, powK, ltK, leK, gtK, geK, eqK, neK, isK, isNotK, isNone, ixK, lenK, maxK, minK, absK, intK, strK, isIn_int, isIn_bool, isIn_list, isIn_tuple, isIn_str, truD, DL.T.frz, DL.T.pln, frzL, plnL, List.map_cons, List.map_nil, List.length_cons, List.length_nil, List.replicate_succ, List.replicate_zero, List.cons_append, List.nil_append, List.append_nil, List.getElem?_cons_zero, List.getElem?_cons_succ, List.getElem?_nil, List.set_cons_zero, List.set_cons_succ, List.set_nil, atI_0, atI_1, atI_2, atI_3, atI_4, ixN_0, ixN_1, ixN_2, plnL_dats, frzL_dats, allK_map, anyK_map, sumK_map, eqv_int, eqOk_int, eqOk_none, eqOk_bool, eqOk_str, bkOk, putBack, adr, pick, List.getD_cons_zero, List.getD_cons_succ, redat, wipeD, true_and, and_true, if_true, if_false, ite_true, ite_false, Bool.true_and, Bool.and_true, Bool.false_and, Bool.not_true, Bool.not_false, Option.getD_some, dLc, till]
  refine ⟨by omega, by omega, ?_⟩
  refine lc_inv many.toNat (fun acc S => ∃ (l : List (Option Int)) (x y c : Int), acc = l.map (fun w => .dat (encO w)) ∧ (∀ w, some w ∈ l → -99 ≤ w ∧ w ≤ 99) ∧ TillB (n + 4 * (l.length : Int)) x y c ∧ S = [some (till a x y c), some (.dat (.int many)), none, none]) _ [] _ ?_ (by simp [rngD_len]) (sz (by omega)) ⟨[], x0, y0, c0, rfl, by simp, by simpa using ht0, rfl⟩ ?_
  · rintro d hd acc S hL ⟨l, x, y, c, rfl, hl, ht, rfl⟩ Q hQ
    simp only [List.length_map] at hL
    obtain ⟨i, hi, rfl⟩ := mem_rngD hd
    simp only [dSeq, dNext, dIf, dRet, dRetN, dSet, dDrop, dC, dVar, dMv, dOp, dTest, dTru, dNot, dAnd, dOr, dAndV, dOrV, dNotV, dIfE, dCons, dNil, dLst, dTup, dFrz, dNeg, dChain, dIx, dIxS, dCa, dIsi, dIsi2, dAsg, dgName, dgTup, dgCons, dgNil, dwSeq, dwTup, dwRng1, dwRng2, dwEnum, dwZip, zipD_map, eqv_strS, plnL_T, frzL_T, dListOf, dIsN, dNotN, tN, dCat, dSl, dNoPart, dPart, dFor, dSetIx, dApp, dCall, dCallK, dPar, dOrT, dAndT, dYes, bodyE, keepPs, keepP, addK, subK, mulK, fdivK, modK, powK, ltK, leK, gtK, geK, eqK, neK, isK, isNotK, isNone, ixK, lenK, maxK, minK, absK, intK, strK, isIn_int, isIn_bool, isIn_list, isIn_tuple, isIn_str, truD, DL.T.frz, DL.T.pln, frzL, plnL, List.map_cons, List.map_nil, List.length_cons, List.length_nil, List.replicate_succ, List.replicate_zero, List.cons_append, List.nil_append, List.append_nil, List.getElem?_cons_zero, List.getElem?_cons_succ, List.getElem?_nil, List.set_cons_zero, List.set_cons_succ, List.set_nil, atI_0, atI_1, atI_2, atI_3, atI_4, ixN_0, ixN_1, ixN_2, plnL_dats, frzL_dats, allK_map, anyK_map, sumK_map, eqv_int, eqOk_int, eqOk_none, eqOk_bool, eqOk_str, bkOk, putBack, adr, pick, List.getD_cons_zero, List.getD_cons_succ, redat, wipeD, true_and, and_true, if_true, if_false, ite_true, ite_false, Bool.true_and, Bool.and_true, Bool.false_and, Bool.not_true, Bool.not_false, Option.getD_some, till, sp_law_near]
    refine ⟨by decide, a, n + 4 * l.length, x, y, c, rfl, ht, by omega, fun w x1 y1 c1 w0 w1 t1 => ?_⟩
    simp only [dSeq, dNext, dIf, dRet, dRetN, dSet, dDrop, dC, dVar, dMv, dOp, dTest, dTru, dNot, dAnd, dOr, dAndV, dOrV, dNotV, dIfE, dCons, dNil, dLst, dTup, dFrz, dNeg, dChain, dIx, dIxS, dCa, dIsi, dIsi2, dAsg, dgName, dgTup, dgCons, dgNil, dwSeq, dwTup, dwRng1, dwRng2, dwEnum, dwZip, zipD_map, eqv_strS, plnL_T, frzL_T, dListOf, dIsN, dNotN, tN, dCat, dSl, dNoPart, dPart, dFor, dSetIx, dApp, dCall, dCallK, dPar, dOrT, dAndT, dYes, bodyE, keepPs, keepP, addK, subK, mulK, fdivK, modK, powK, ltK, leK, gtK, geK, eqK, neK, isK, isNotK, isNone, ixK, lenK, maxK, minK, absK, intK, strK, isIn_int, isIn_bool, isIn_list, isIn_tuple, isIn_str, truD, DL.T.frz, DL.T.pln, frzL, plnL, List.map_cons, List.map_nil, List.length_cons, List.length_nil, List.replicate_succ, List.replicate_zero, List.cons_append, List.nil_append, List.append_nil, List.getElem?_cons_zero, List.getElem?_cons_succ, List.getElem?_nil, List.set_cons_zero, List.set_cons_succ, List.set_nil, atI_0, atI_1, atI_2, atI_3, atI_4, ixN_0, ixN_1, ixN_2, plnL_dats, frzL_dats, allK_map, anyK_map, sumK_map, eqv_int, eqOk_int, eqOk_none, eqOk_bool, eqOk_str, bkOk, putBack, adr, pick, List.getD_cons_zero, List.getD_cons_succ, redat, wipeD, true_and, and_true, if_true, if_false, ite_true, ite_false, Bool.true_and, Bool.and_true, Bool.false_and, Bool.not_true, Bool.not_false, Option.getD_some, till, sp_law_pull]
    refine ⟨by decide, fun p => ⟨a, n + 4 * l.length + 3, x1, y1, c1, 4, rfl, t1, by omega, by omega, by omega, fun r x2 y2 c2 r0 r1 t2 => ?_⟩⟩
    have t2' : TillB (n + 4 * ((l.length + 1 : Nat) : Int)) x2 y2 c2 := t2.mono (by omega)
    by_cases hr : r = 0
    · subst hr
      simp [dSeq, dNext, dIf, dRet, dRetN, dSet, dDrop, dC, dVar, dMv, dOp, dTest, dTru, dNot, dAnd, dOr, dAndV, dOrV, dNotV, dIfE, dCons, dNil, dLst, dTup, dFrz, dNeg, dChain, dIx, dIxS, dCa, dIsi, dIsi2, dAsg, dgName, dgTup, dgCons, dgNil, dwSeq, dwTup, dwRng1, dwRng2, dwEnum, dwZip, zipD_map, eqv_strS, plnL_T, frzL_T, dListOf, dIsN, dNotN, tN, dCat, dSl, dNoPart, dPart, dFor, dSetIx, dApp, dCall, dCallK, dPar, dOrT, dAndT, dYes, bodyE, keepPs, keepP, addK, subK, mulK, fdivK, modK, powK, ltK, leK, gtK, geK, eqK, neK, isK, isNotK, isNone, ixK, lenK, maxK, minK, absK, intK, strK, isIn_int, isIn_bool, isIn_list, isIn_tuple, isIn_str, truD, DL.T.frz, DL.T.pln, frzL, plnL, List.map_cons, List.map_nil, List.length_cons, List.length_nil, List.replicate_succ, List.replicate_zero, List.cons_append, List.nil_append, List.append_nil, List.getElem?_cons_zero, List.getElem?_cons_succ, List.getElem?_nil, List.set_cons_zero, List.set_cons_succ, List.set_nil, atI_0, atI_1, atI_2, atI_3, atI_4, ixN_0, ixN_1, ixN_2, plnL_dats, frzL_dats, allK_map, anyK_map, sumK_map, eqv_int, eqOk_int, eqOk_none, eqOk_bool, eqOk_str, bkOk, putBack, adr, pick, List.getD_cons_zero, List.getD_cons_succ, redat, wipeD, true_and, and_true, if_true, if_false, ite_true, ite_false, Bool.true_and, Bool.and_true, Bool.false_and, Bool.not_true, Bool.not_false, Option.getD_some, till]
      refine hQ _ _ ⟨l ++ [none], x2, y2, c2, by simp [encO], by simpa using hl, by simpa using t2', ?_⟩
      simp [dSeq, dNext, dIf, dRet, dRetN, dSet, dDrop, dC, dVar, dMv, dOp, dTest, dTru, dNot, dAnd, dOr, dAndV, dOrV, dNotV, dIfE, dCons, dNil, dLst, dTup, dFrz, dNeg, dChain, dIx, dIxS, dCa, dIsi, dIsi2, dAsg, dgName, dgTup, dgCons, dgNil, dwSeq, dwTup, dwRng1, dwRng2, dwEnum, dwZip, zipD_map, eqv_strS, plnL_T, frzL_T, dListOf, dIsN, dNotN, tN, dCat, dSl, dNoPart, dPart, dFor, dSetIx, dApp, dCall, dCallK, dPar, dOrT, dAndT, dYes, bodyE, keepPs, keepP, addK, subK, mulK, fdivK, modK, powK, ltK, leK, gtK, geK, eqK, neK, isK, isNotK, isNone, ixK, lenK, maxK, minK, absK, intK, strK, isIn_int, isIn_bool, isIn_list, isIn_tuple, isIn_str, truD, DL.T.frz, DL.T.pln, frzL, plnL, List.map_cons, List.map_nil, List.length_cons, List.length_nil, List.replicate_succ, List.replicate_zero, List.cons_append, List.nil_append, List.append_nil, List.getElem?_cons_zero, List.getElem?_cons_succ, List.getElem?_nil, List.set_cons_zero, List.set_cons_succ, List.set_nil, atI_0, atI_1, atI_2, atI_3, atI_4, ixN_0, ixN_1, ixN_2, plnL_dats, frzL_dats, allK_map, anyK_map, sumK_map, eqv_int, eqOk_int, eqOk_none, eqOk_bool, eqOk_str, bkOk, putBack, adr, pick, List.getD_cons_zero, List.getD_cons_succ, redat, wipeD, true_and, and_true, if_true, if_false, ite_true, ite_false, Bool.true_and, Bool.and_true, Bool.false_and, Bool.not_true, Bool.not_false, Option.getD_some, till]
    · simp [dSeq, dNext, dIf, dRet, dRetN, dSet, dDrop, dC, dVar, dMv, dOp, dTest, dTru, dNot, dAnd, dOr, dAndV, dOrV, dNotV, dIfE, dCons, dNil, dLst, dTup, dFrz, dNeg, dChain, dIx, dIxS, dCa, dIsi, dIsi2, dAsg, dgName, dgTup, dgCons, dgNil, dwSeq, dwTup, dwRng1, dwRng2, dwEnum, dwZip, zipD_map, eqv_strS, plnL_T, frzL_T, dListOf, dIsN, dNotN, tN, dCat, dSl, dNoPart, dPart, dFor, dSetIx, dApp, dCall, dCallK, dPar, dOrT, dAndT, dYes, bodyE, keepPs, keepP, addK, subK, mulK, fdivK, modK, powK, ltK, leK, gtK, geK, eqK, neK, isK, isNotK, isNone, ixK, lenK, maxK, minK, absK, intK, strK, isIn_int, isIn_bool, isIn_list, isIn_tuple, isIn_str, truD, DL.T.frz, DL.T.pln, frzL, plnL, List.map_cons, List.map_nil, List.length_cons, List.length_nil, List.replicate_succ, List.replicate_zero, List.cons_append, List.nil_append, List.append_nil, List.getElem?_cons_zero, List.getElem?_cons_succ, List.getElem?_nil, List.set_cons_zero, List.set_cons_succ, List.set_nil, atI_0, atI_1, atI_2, atI_3, atI_4, ixN_0, ixN_1, ixN_2, plnL_dats, frzL_dats, allK_map, anyK_map, sumK_map, eqv_int, eqOk_int, eqOk_none, eqOk_bool, eqOk_str, bkOk, putBack, adr, pick, List.getD_cons_zero, List.getD_cons_succ, redat, wipeD, true_and, and_true, if_true, if_false, ite_true, ite_false, Bool.true_and, Bool.and_true, Bool.false_and, Bool.not_true, Bool.not_false, Option.getD_some, till, hr]
      refine hQ _ _ ⟨l ++ [some w], x2, y2, c2, by simp [encO], ?_, by simpa using t2', ?_⟩
      · intro v hv
        rcases List.mem_append.mp hv with hv | hv
        · exact hl v hv
        · simp at hv
          subst hv
          exact ⟨w0, w1⟩
      · simp [dSeq, dNext, dIf, dRet, dRetN, dSet, dDrop, dC, dVar, dMv, dOp, dTest, dTru, dNot, dAnd, dOr, dAndV, dOrV, dNotV, dIfE, dCons, dNil, dLst, dTup, dFrz, dNeg, dChain, dIx, dIxS, dCa, dIsi, dIsi2, dAsg, dgName, dgTup, dgCons, dgNil, dwSeq, dwTup, dwRng1, dwRng2, dwEnum, dwZip, zipD_map, eqv_strS, plnL_T, frzL_T, dListOf, dIsN, dNotN, tN, dCat, dSl, dNoPart, dPart, dFor, dSetIx, dApp, dCall, dCallK, dPar, dOrT, dAndT, dYes, bodyE, keepPs, keepP, addK, subK, mulK, fdivK, modK, powK, ltK, leK, gtK, geK, eqK, neK, isK, isNotK, isNone, ixK, lenK, maxK, minK, absK, intK, strK, isIn_int, isIn_bool, isIn_list, isIn_tuple, isIn_str, truD, DL.T.frz, DL.T.pln, frzL, plnL, List.map_cons, List.map_nil, List.length_cons, List.length_nil, List.replicate_succ, List.replicate_zero, List.cons_append, List.nil_append, List.append_nil, List.getElem?_cons_zero, List.getElem?_cons_succ, List.getElem?_nil, List.set_cons_zero, List.set_cons_succ, List.set_nil, atI_0, atI_1, atI_2, atI_3, atI_4, ixN_0, ixN_1, ixN_2, plnL_dats, frzL_dats, allK_map, anyK_map, sumK_map, eqv_int, eqOk_int, eqOk_none, eqOk_bool, eqOk_str, bkOk, putBack, adr, pick, List.getD_cons_zero, List.getD_cons_succ, redat, wipeD, true_and, and_true, if_true, if_false, ite_true, ite_false, Bool.true_and, Bool.and_true, Bool.false_and, Bool.not_true, Bool.not_false, Option.getD_some, till]
  · rintro acc S hlen ⟨l, x, y, c, rfl, hl, ht, rfl⟩
    simp only [List.length_map] at hlen
    simp only [dSeq, dNext, dIf, dRet, dRetN, dSet, dDrop, dC, dVar, dMv, dOp, dTest, dTru, dNot, dAnd, dOr, dAndV, dOrV, dNotV, dIfE, dCons, dNil, dLst, dTup, dFrz, dNeg, dChain, dIx, dIxS, dCa, dIsi, dIsi2, dAsg, dgName, dgTup, dgCons, dgNil, dwSeq, dwTup, dwRng1, dwRng2, dwEnum, dwZip, zipD_map, eqv_strS, plnL_T, frzL_T, dListOf, dIsN, dNotN, tN, dCat, dSl, dNoPart, dPart, dFor, dSetIx, dApp, dCall, dCallK, dPar, dOrT, dAndT, dYes, bodyE, keepPs, keepP, addK, subK, mulK, fdivK, modK, powK, ltK, leK, gtK, geK, eqK, neK, isK, isNotK, isNone, ixK, lenK, maxK, minK, absK, intK, strK, isIn_int, isIn_bool, isIn_list, isIn_tuple, isIn_str, truD, DL.T.frz, DL.T.pln, frzL, plnL, List.map_cons, List.map_nil, List.length_cons, List.length_nil, List.replicate_succ, List.replicate_zero, List.cons_append, List.nil_append, List.append_nil, List.getElem?_cons_zero, List.getElem?_cons_succ, List.getElem?_nil, List.set_cons_zero, List.set_cons_succ, List.set_nil, atI_0, atI_1, atI_2, atI_3, atI_4, ixN_0, ixN_1, ixN_2, plnL_dats, frzL_dats, allK_map, anyK_map, sumK_map, eqv_int, eqOk_int, eqOk_none, eqOk_bool, eqOk_str, bkOk, putBack, adr, pick, List.getD_cons_zero, List.getD_cons_succ, redat, wipeD, true_and, and_true, if_true, if_false, ite_true, ite_false, Bool.true_and, Bool.and_true, Bool.false_and, Bool.not_true, Bool.not_false, Option.getD_some, till, sp_law_pull]
    intro D
    refine ⟨by decide, a, n + 4 * l.length, x, y, c, 7, rfl, ht, by omega, by omega, by omega, fun r x2 y2 c2 r0 r1 t2 => ?_⟩
    have t2' : TillB (n + 20) x2 y2 c2 := t2.mono (by omega)
    simp only [dSeq, dNext, dIf, dRet, dRetN, dSet, dDrop, dC, dVar, dMv, dOp, dTest, dTru, dNot, dAnd, dOr, dAndV, dOrV, dNotV, dIfE, dCons, dNil, dLst, dTup, dFrz, dNeg, dChain, dIx, dIxS, dCa, dIsi, dIsi2, dAsg, dgName, dgTup, dgCons, dgNil, dwSeq, dwTup, dwRng1, dwRng2, dwEnum, dwZip, zipD_map, eqv_strS, plnL_T, frzL_T, dListOf, dIsN, dNotN, tN, dCat, dSl, dNoPart, dPart, dFor, dSetIx, dApp, dCall, dCallK, dPar, dOrT, dAndT, dYes, bodyE, keepPs, keepP, addK, subK, mulK, fdivK, modK, powK, ltK, leK, gtK, geK, eqK, neK, isK, isNotK, isNone, ixK, lenK, maxK, minK, absK, intK, strK, isIn_int, isIn_bool, isIn_list, isIn_tuple, isIn_str, truD, DL.T.frz, DL.T.pln, frzL, plnL, List.map_cons, List.map_nil, List.length_cons, List.length_nil, List.replicate_succ, List.replicate_zero, List.cons_append, List.nil_append, List.append_nil, List.getElem?_cons_zero, List.getElem?_cons_succ, List.getElem?_nil, List.set_cons_zero, List.set_cons_succ, List.set_nil, atI_0, atI_1, atI_2, atI_3, atI_4, ixN_0, ixN_1, ixN_2, plnL_dats, frzL_dats, allK_map, anyK_map, sumK_map, eqv_int, eqOk_int, eqOk_none, eqOk_bool, eqOk_str, bkOk, putBack, adr, pick, List.getD_cons_zero, List.getD_cons_succ, redat, wipeD, true_and, and_true, if_true, if_false, ite_true, ite_false, Bool.true_and, Bool.and_true, Bool.false_and, Bool.not_true, Bool.not_false, Option.getD_some, till]
    by_cases hr : 0 < r
    · simp [hr]
      exact h (some l) x2 y2 c2 (fun l' e => by cases e; exact ⟨hlen, hl⟩) t2'
    · simp [hr]
      exact h none x2 y2 c2 (fun l' e => by cases e) t2'
def sp_law_market : FSp := fun As Q => ∃ a n x y c, As = [till a x y c] ∧ TillB n x y c ∧ n ≤ 700000 ∧
  ∀ m x' y' c', WF m → TillB (n + 200) x' y' c' → Q (.dat (encM m)) [some (till a x' y' c')]
theorem ok_law_market (tx : Txt K mg A) : FnOk P w K mg base CX0 4 A.a_law_market A.d_law_market ["till"] (spD K 1 sp_law_market) := by
  refine fn_okD (N := ["till", "full", "goods", "ware", "turn"]) (k := 3) (sp := sp_law_market) tx.F_law_market sc_law_market ?_
  intro cdv Ar outer s H E hr
  refine Exists.intro _ (And.intro (pssd_cons (psd_set (i := 1) sc_law_market.nd (pd_callTy ca_int (by rfl) tx.n_int (by decide +kernel) (pad_cons (pd_cmp (od_eq hr.units) (pd_call (dv := []) (dvs := []) (ok_law_pull tx) (hr.mono (by decide)) (by rfl) tx.F_law_pull.g tx.F_law_pull.F.kp (b_law_pull tx) .nil rfl [(0, 0)] (pad_cons (pdm 0) (pad_cons pd_int pad_nil))) pd_int) pad_nil))) (pssd_cons (psd_set (i := 2) sc_law_market.nd (pd_lst pad_nil) (hx := Or.inr rfl)) (pssd_cons (psd_for PassesOwn.never rfl (pid_rng1 (by rfl) tx.n_range (pad_cons (pd_ix (pd_frz (pd_lst (pad_cons (pd_op od_add pd_int (pd_call (dv := []) (dvs := []) (ok_law_pull tx) (hr.mono (by decide)) (by rfl) tx.F_law_pull.g tx.F_law_pull.F.kp (b_law_pull tx) .nil rfl [(0, 0)] (pad_cons (pdm 0) (pad_cons pd_int pad_nil)))) (pad_cons pd_int pad_nil)))) (pdv 1)) pad_nil)) (pgd_name (i := 3) sc_law_market.nd) (pssd_one (psd_app 2 (pd_frz (pd_tup (pad_cons (pd_op od_add pd_int (pd_call (dv := []) (dvs := []) (ok_law_pull tx) (hr.mono (by decide)) (by rfl) tx.F_law_pull.g tx.F_law_pull.F.kp (b_law_pull tx) .nil rfl [(0, 0)] (pad_cons (pdm 0) (pad_cons pd_int pad_nil)))) (pad_cons (pd_op od_add pd_int (pd_call (dv := []) (dvs := []) (ok_law_pull tx) (hr.mono (by decide)) (by rfl) tx.F_law_pull.g tx.F_law_pull.F.kp (b_law_pull tx) .nil rfl [(0, 0)] (pad_cons (pdm 0) (pad_cons pd_int pad_nil)))) (pad_cons (pd_call (dv := []) (dvs := []) (ok_law_near tx) (hr.mono (by decide)) (by rfl) tx.F_law_near.g tx.F_law_near.F.kp (b_law_near tx) .nil rfl [(0, 0)] (pad_cons (pdm 0) pad_nil)) pad_nil))))) (hx := pe_bm PySem.F.plainAttrs_list PySem.F.slot_list_append PySem.F.type_list_append mt_append (pv 2) (pa_cons (pd_frz (pd_tup (pad_cons (pd_op od_add pd_int (pd_call (dv := []) (dvs := []) (ok_law_pull tx) (hr.mono (by decide)) (by rfl) tx.F_law_pull.g tx.F_law_pull.F.kp (b_law_pull tx) .nil rfl [(0, 0)] (pad_cons (pdm 0) (pad_cons pd_int pad_nil)))) (pad_cons (pd_op od_add pd_int (pd_call (dv := []) (dvs := []) (ok_law_pull tx) (hr.mono (by decide)) (by rfl) tx.F_law_pull.g tx.F_law_pull.F.kp (b_law_pull tx) .nil rfl [(0, 0)] (pad_cons (pdm 0) (pad_cons pd_int pad_nil)))) (pad_cons (pd_call (dv := []) (dvs := []) (ok_law_near tx) (hr.mono (by decide)) (by rfl) tx.F_law_near.g tx.F_law_near.F.kp (b_law_near tx) .nil rfl [(0, 0)] (pad_cons (pdm 0) pad_nil)) pad_nil))))) pa_nil))))) (pssd_one (psd_ret (pd_frz (pd_tup (pad_cons (pdv 2) (pad_cons (pd_frz (pd_lc (own := [("turn", 4)]) rfl sc_law_market.nd (pid_rng1 (by rfl) tx.n_range (pad_cons (pd_ix (pd_frz (pd_lst (pad_cons (pd_op od_add pd_int (pd_call (dv := []) (dvs := []) (ok_law_pull tx) (hr.mono (by decide)) (by rfl) tx.F_law_pull.g tx.F_law_pull.F.kp (b_law_pull tx) .nil rfl [(0, 0)] (pad_cons (pdm 0) (pad_cons pd_int pad_nil)))) (pad_cons pd_int pad_nil)))) (pdv 1)) pad_nil)) (blkOk_by (N := ["till", "full", "goods", "ware", "turn"]) (sc := defScope s_law_market) (by decide +kernel)) (fun _ _ _ _ _ => (pg_name (i := 4) sc_law_market.nd rfl (Or.inl rfl))) (link_name (by decide)) (fun _ _ _ _ _ => ptsd_nil) (fun _ _ _ _ _ => (pd_call (dv := []) (dvs := []) (ok_law_buyer tx) (hr.mono (by decide)) (by rfl) tx.F_law_buyer.g tx.F_law_buyer.F.kp (b_law_buyer tx) .nil rfl [(0, 0)] (pad_cons (pdm 0) (pad_cons (pd_callB ca_len (by rfl) tx.n_len (by decide +kernel) (pad_cons (pdv 2) pad_nil)) pad_nil)))))) pad_nil))))))))) ?_)
  intro As Qd hl h
  obtain ⟨a, n, x0, y0, c0, rfl, ht0, hn, h⟩ := h
  simp only [dSeq, dNext, dIf, dRet, dRetN, dSet, dDrop, dC, dVar, dMv, dOp, dTest, dTru, dNot, dAnd, dOr, dAndV, dOrV, dNotV, dIfE, dCons, dNil, dLst, dTup, dFrz, dNeg, dChain, dIx, dIxS, dCa, dIsi, dIsi2, dAsg, dgName, dgTup, dgCons, dgNil, dwSeq, dwTup, dwRng1, dwRng2, dwEnum, dwZip, zipD_map, eqv_strS, plnL_T, frzL_T, dListOf, dIsN, dNotN, tN, dCat, dSl, dNoPart, dPart, dFor, dSetIx, dApp, dCall, dCallK, dPar, dOrT, dAndT, dYes, bodyE, keepPs, keepP, addK, subK, mulK, fdivK, modK, powK, ltK, leK, gtK, geK, eqK, neK, isK, isNotK, isNone, ixK, lenK, maxK, minK, absK, intK, strK, isIn_int, isIn_bool, isIn_list, isIn_tuple, isIn_str, truD, DL.T.frz, DL.T.pln, frzL, plnL, List.map_cons, List.map_nil, List.length_cons, List.length_nil, List.replicate_succ, List.replicate_zero, List.cons_append, List.nil_append, List.append_nil, List.getElem?_cons_zero, List.getElem?_cons_succ, List.getElem?_nil, List.set_cons_zero, List.set_cons_succ, List.set_nil, atI_0, atI_1, atI_2, atI_3, atI_4, ixN_0, ixN_1, ixN_2, plnL_dats, frzL_dats, allK_map, anyK_map, sumK_map, eqv_int, eqOk_int, eqOk_none, eqOk_bool, eqOk_str, bkOk, putBack, adr, pick, List.getD_cons_zero, List.getD_cons_succ, redat, wipeD, true_and, and_true, if_true, if_false, ite_true, ite_false, Bool.true_and, Bool.and_true, Bool.false_and, Bool.not_true, Bool.not_false, Option.getD_some, till, sp_law_pull]
  refine ⟨a, n, x0, y0, c0, 8, rfl, ht0, by omega, by omega, by omega, fun r x y c r0 r1 t1 => ?_⟩
  simp only [dSeq, dNext, dIf, dRet, dRetN, dSet, dDrop, dC, dVar, dMv, dOp, dTest, dTru, dNot, dAnd, dOr, dAndV, dOrV, dNotV, dIfE, dCons, dNil, dLst, dTup, dFrz, dNeg, dChain, dIx, dIxS, dCa, dIsi, dIsi2, dAsg, dgName, dgTup, dgCons, dgNil, dwSeq, dwTup, dwRng1, dwRng2, dwEnum, dwZip, zipD_map, eqv_strS, plnL_T, frzL_T, dListOf, dIsN, dNotN, tN, dCat, dSl, dNoPart, dPart, dFor, dSetIx, dApp, dCall, dCallK, dPar, dOrT, dAndT, dYes, bodyE, keepPs, keepP, addK, subK, mulK, fdivK, modK, powK, ltK, leK, gtK, geK, eqK, neK, isK, isNotK, isNone, ixK, lenK, maxK, minK, absK, intK, strK, isIn_int, isIn_bool, isIn_list, isIn_tuple, isIn_str, truD, DL.T.frz, DL.T.pln, frzL, plnL, List.map_cons, List.map_nil, List.length_cons, List.length_nil, List.replicate_succ, List.replicate_zero, List.cons_append, List.nil_append, List.append_nil, List.getElem?_cons_zero, List.getElem?_cons_succ, List.getElem?_nil, List.set_cons_zero, List.set_cons_succ, List.set_nil, atI_0, atI_1, atI_2, atI_3, atI_4, ixN_0, ixN_1, ixN_2, plnL_dats, frzL_dats, allK_map, anyK_map, sumK_map, eqv_int, eqOk_int, eqOk_none, eqOk_bool, eqOk_str, bkOk, putBack, adr, pick, List.getD_cons_zero, List.getD_cons_succ, redat, wipeD, true_and, and_true, if_true, if_false, ite_true, ite_false, Bool.true_and, Bool.and_true, Bool.false_and, Bool.not_true, Bool.not_false, Option.getD_some, till]
  obtain ⟨fu, hfu, hf⟩ : ∃ fu : Int, (fu = 0 ∨ fu = 1) ∧ (if decide (r = 0) = true then (1 : Int) else 0) = fu := ⟨_, by split <;> simp, rfl⟩
  simp only [hf]
  refine ⟨by decide, by decide, fun p => ⟨by decide, ?_⟩⟩
  refine ⟨a, n + 1, x, y, c, 4, rfl, t1, by omega, by omega, by omega, fun r2 x2 y2 c2 r20 r21 t2 => ?_⟩
  obtain ⟨J, hJ, hJ1, hJ4⟩ : ∃ J : Int, atI [PyData.int (1 + r2), PyData.int 4] fu = some (.int J) ∧ 1 ≤ J ∧ J ≤ 4 := by
    rcases hfu with rfl | rfl
    · exact ⟨_, atI_0 _ _, by omega, by omega⟩
    · exact ⟨_, atI_1 _ _ _, by omega, by omega⟩
  refine ⟨rfl, by decide, fun p1 => ?_⟩
  simp only [hJ]
  refine ⟨by omega, by omega, ?_⟩
  refine for_inv (fun k S => ∃ (gs : List (Int × Int × Int)) (x y c : Int) (w : Option T), gs.length = k ∧ (∀ g ∈ gs, WFg g) ∧ TillB (n + 3 + 10 * (k : Int)) x y c ∧ S = [some (till a x y c), some (.dat (.int fu)), some (.node .lst p (gs.map fun g => .dat (encG g))), w, none]) _ 0 _ ?_ ⟨[], x2, y2, c2, none, rfl, by simp, t2.mono (by omega), rfl⟩ ?_
  · rintro k d S hd ⟨gs, x, y, c, w, hk, hgs, ht, rfl⟩ N hN
    obtain ⟨hk2, rfl⟩ := get_rngD hd
    simp only [Nat.zero_add] at hk ht hN
    simp only [dSeq, dNext, dIf, dRet, dRetN, dSet, dDrop, dC, dVar, dMv, dOp, dTest, dTru, dNot, dAnd, dOr, dAndV, dOrV, dNotV, dIfE, dCons, dNil, dLst, dTup, dFrz, dNeg, dChain, dIx, dIxS, dCa, dIsi, dIsi2, dAsg, dgName, dgTup, dgCons, dgNil, dwSeq, dwTup, dwRng1, dwRng2, dwEnum, dwZip, zipD_map, eqv_strS, plnL_T, frzL_T, dListOf, dIsN, dNotN, tN, dCat, dSl, dNoPart, dPart, dFor, dSetIx, dApp, dCall, dCallK, dPar, dOrT, dAndT, dYes, bodyE, keepPs, keepP, addK, subK, mulK, fdivK, modK, powK, ltK, leK, gtK, geK, eqK, neK, isK, isNotK, isNone, ixK, lenK, maxK, minK, absK, intK, strK, isIn_int, isIn_bool, isIn_list, isIn_tuple, isIn_str, truD, DL.T.frz, DL.T.pln, frzL, plnL, List.map_cons, List.map_nil, List.length_cons, List.length_nil, List.replicate_succ, List.replicate_zero, List.cons_append, List.nil_append, List.append_nil, List.getElem?_cons_zero, List.getElem?_cons_succ, List.getElem?_nil, List.set_cons_zero, List.set_cons_succ, List.set_nil, atI_0, atI_1, atI_2, atI_3, atI_4, ixN_0, ixN_1, ixN_2, plnL_dats, frzL_dats, allK_map, anyK_map, sumK_map, eqv_int, eqOk_int, eqOk_none, eqOk_bool, eqOk_str, bkOk, putBack, adr, pick, List.getD_cons_zero, List.getD_cons_succ, redat, wipeD, true_and, and_true, if_true, if_false, ite_true, ite_false, Bool.true_and, Bool.and_true, Bool.false_and, Bool.not_true, Bool.not_false, Option.getD_some, till, sp_law_pull]
    refine ⟨by decide, a, n + 3 + 10 * k, x, y, c, 4, rfl, ht, by omega, by omega, by omega, fun u x3 y3 c3 u0 u1 t3 => ?_⟩
    simp only [dSeq, dNext, dIf, dRet, dRetN, dSet, dDrop, dC, dVar, dMv, dOp, dTest, dTru, dNot, dAnd, dOr, dAndV, dOrV, dNotV, dIfE, dCons, dNil, dLst, dTup, dFrz, dNeg, dChain, dIx, dIxS, dCa, dIsi, dIsi2, dAsg, dgName, dgTup, dgCons, dgNil, dwSeq, dwTup, dwRng1, dwRng2, dwEnum, dwZip, zipD_map, eqv_strS, plnL_T, frzL_T, dListOf, dIsN, dNotN, tN, dCat, dSl, dNoPart, dPart, dFor, dSetIx, dApp, dCall, dCallK, dPar, dOrT, dAndT, dYes, bodyE, keepPs, keepP, addK, subK, mulK, fdivK, modK, powK, ltK, leK, gtK, geK, eqK, neK, isK, isNotK, isNone, ixK, lenK, maxK, minK, absK, intK, strK, isIn_int, isIn_bool, isIn_list, isIn_tuple, isIn_str, truD, DL.T.frz, DL.T.pln, frzL, plnL, List.map_cons, List.map_nil, List.length_cons, List.length_nil, List.replicate_succ, List.replicate_zero, List.cons_append, List.nil_append, List.append_nil, List.getElem?_cons_zero, List.getElem?_cons_succ, List.getElem?_nil, List.set_cons_zero, List.set_cons_succ, List.set_nil, atI_0, atI_1, atI_2, atI_3, atI_4, ixN_0, ixN_1, ixN_2, plnL_dats, frzL_dats, allK_map, anyK_map, sumK_map, eqv_int, eqOk_int, eqOk_none, eqOk_bool, eqOk_str, bkOk, putBack, adr, pick, List.getD_cons_zero, List.getD_cons_succ, redat, wipeD, true_and, and_true, if_true, if_false, ite_true, ite_false, Bool.true_and, Bool.and_true, Bool.false_and, Bool.not_true, Bool.not_false, Option.getD_some, till]
    refine ⟨a, n + 3 + 10 * k + 1, x3, y3, c3, 4, rfl, t3, by omega, by omega, by omega, fun v x4 y4 c4 v0 v1 t4 => ?_⟩
    simp only [dSeq, dNext, dIf, dRet, dRetN, dSet, dDrop, dC, dVar, dMv, dOp, dTest, dTru, dNot, dAnd, dOr, dAndV, dOrV, dNotV, dIfE, dCons, dNil, dLst, dTup, dFrz, dNeg, dChain, dIx, dIxS, dCa, dIsi, dIsi2, dAsg, dgName, dgTup, dgCons, dgNil, dwSeq, dwTup, dwRng1, dwRng2, dwEnum, dwZip, zipD_map, eqv_strS, plnL_T, frzL_T, dListOf, dIsN, dNotN, tN, dCat, dSl, dNoPart, dPart, dFor, dSetIx, dApp, dCall, dCallK, dPar, dOrT, dAndT, dYes, bodyE, keepPs, keepP, addK, subK, mulK, fdivK, modK, powK, ltK, leK, gtK, geK, eqK, neK, isK, isNotK, isNone, ixK, lenK, maxK, minK, absK, intK, strK, isIn_int, isIn_bool, isIn_list, isIn_tuple, isIn_str, truD, DL.T.frz, DL.T.pln, frzL, plnL, List.map_cons, List.map_nil, List.length_cons, List.length_nil, List.replicate_succ, List.replicate_zero, List.cons_append, List.nil_append, List.append_nil, List.getElem?_cons_zero, List.getElem?_cons_succ, List.getElem?_nil, List.set_cons_zero, List.set_cons_succ, List.set_nil, atI_0, atI_1, atI_2, atI_3, atI_4, ixN_0, ixN_1, ixN_2, plnL_dats, frzL_dats, allK_map, anyK_map, sumK_map, eqv_int, eqOk_int, eqOk_none, eqOk_bool, eqOk_str, bkOk, putBack, adr, pick, List.getD_cons_zero, List.getD_cons_succ, redat, wipeD, true_and, and_true, if_true, if_false, ite_true, ite_false, Bool.true_and, Bool.and_true, Bool.false_and, Bool.not_true, Bool.not_false, Option.getD_some, till, sp_law_near]
    refine ⟨a, n + 3 + 10 * k + 1 + 1, x4, y4, c4, rfl, t4, by omega, fun z x5 y5 c5 z0 z1 t5 => ?_⟩
    simp only [dSeq, dNext, dIf, dRet, dRetN, dSet, dDrop, dC, dVar, dMv, dOp, dTest, dTru, dNot, dAnd, dOr, dAndV, dOrV, dNotV, dIfE, dCons, dNil, dLst, dTup, dFrz, dNeg, dChain, dIx, dIxS, dCa, dIsi, dIsi2, dAsg, dgName, dgTup, dgCons, dgNil, dwSeq, dwTup, dwRng1, dwRng2, dwEnum, dwZip, zipD_map, eqv_strS, plnL_T, frzL_T, dListOf, dIsN, dNotN, tN, dCat, dSl, dNoPart, dPart, dFor, dSetIx, dApp, dCall, dCallK, dPar, dOrT, dAndT, dYes, bodyE, keepPs, keepP, addK, subK, mulK, fdivK, modK, powK, ltK, leK, gtK, geK, eqK, neK, isK, isNotK, isNone, ixK, lenK, maxK, minK, absK, intK, strK, isIn_int, isIn_bool, isIn_list, isIn_tuple, isIn_str, truD, DL.T.frz, DL.T.pln, frzL, plnL, List.map_cons, List.map_nil, List.length_cons, List.length_nil, List.replicate_succ, List.replicate_zero, List.cons_append, List.nil_append, List.append_nil, List.getElem?_cons_zero, List.getElem?_cons_succ, List.getElem?_nil, List.set_cons_zero, List.set_cons_succ, List.set_nil, atI_0, atI_1, atI_2, atI_3, atI_4, ixN_0, ixN_1, ixN_2, plnL_dats, frzL_dats, allK_map, anyK_map, sumK_map, eqv_int, eqOk_int, eqOk_none, eqOk_bool, eqOk_str, bkOk, putBack, adr, pick, List.getD_cons_zero, List.getD_cons_succ, redat, wipeD, true_and, and_true, if_true, if_false, ite_true, ite_false, Bool.true_and, Bool.and_true, Bool.false_and, Bool.not_true, Bool.not_false, Option.getD_some, till]
    refine ⟨by decide, fun q => ⟨sz (by simp; omega), ?_⟩⟩
    refine hN _ ⟨gs ++ [(1 + u, 1 + v, z)], x5, y5, c5, some (.dat (.int (0 + (k : Int)))), by simp [hk], ?_, t5.mono (by omega), ?_⟩
    · intro g hg
      rcases List.mem_append.mp hg with hg | hg
      · exact hgs g hg
      · simp at hg
        subst hg
        exact ⟨⟨by show 1 ≤ 1 + u; omega, by show 1 + u ≤ 4; omega⟩, ⟨by show 1 ≤ 1 + v; omega, by show 1 + v ≤ 4; omega⟩, z0, z1⟩
    · simp [till, encG]
  · rintro S ⟨gs, x, y, c, w, hk, hgs, ht, rfl⟩
    rw [rngD_len] at hk ht
    simp only [Nat.zero_add] at hk ht
    have hk2 : (gs.length : Int) = J := by omega
    simp only [dSeq, dNext, dIf, dRet, dRetN, dSet, dDrop, dC, dVar, dMv, dOp, dTest, dTru, dNot, dAnd, dOr, dAndV, dOrV, dNotV, dIfE, dCons, dNil, dLst, dTup, dFrz, dNeg, dChain, dIx, dIxS, dCa, dIsi, dIsi2, dAsg, dgName, dgTup, dgCons, dgNil, dwSeq, dwTup, dwRng1, dwRng2, dwEnum, dwZip, zipD_map, eqv_strS, plnL_T, frzL_T, dListOf, dIsN, dNotN, tN, dCat, dSl, dNoPart, dPart, dFor, dSetIx, dApp, dCall, dCallK, dPar, dOrT, dAndT, dYes, bodyE, keepPs, keepP, addK, subK, mulK, fdivK, modK, powK, ltK, leK, gtK, geK, eqK, neK, isK, isNotK, isNone, ixK, lenK, maxK, minK, absK, intK, strK, isIn_int, isIn_bool, isIn_list, isIn_tuple, isIn_str, truD, DL.T.frz, DL.T.pln, frzL, plnL, List.map_cons, List.map_nil, List.length_cons, List.length_nil, List.replicate_succ, List.replicate_zero, List.cons_append, List.nil_append, List.append_nil, List.getElem?_cons_zero, List.getElem?_cons_succ, List.getElem?_nil, List.set_cons_zero, List.set_cons_succ, List.set_nil, atI_0, atI_1, atI_2, atI_3, atI_4, ixN_0, ixN_1, ixN_2, plnL_dats, frzL_dats, allK_map, anyK_map, sumK_map, eqv_int, eqOk_int, eqOk_none, eqOk_bool, eqOk_str, bkOk, putBack, adr, pick, List.getD_cons_zero, List.getD_cons_succ, redat, wipeD, true_and, and_true, if_true, if_false, ite_true, ite_false, Bool.true_and, Bool.and_true, Bool.false_and, Bool.not_true, Bool.not_false, Option.getD_some, dLc, till, sp_law_pull]
    refine ⟨a, n + 3 + 10 * (J.toNat : Int), x, y, c, 6, rfl, ht, by omega, by omega, by omega, fun u x3 y3 c3 u0 u1 t3 => ?_⟩
    simp only [dSeq, dNext, dIf, dRet, dRetN, dSet, dDrop, dC, dVar, dMv, dOp, dTest, dTru, dNot, dAnd, dOr, dAndV, dOrV, dNotV, dIfE, dCons, dNil, dLst, dTup, dFrz, dNeg, dChain, dIx, dIxS, dCa, dIsi, dIsi2, dAsg, dgName, dgTup, dgCons, dgNil, dwSeq, dwTup, dwRng1, dwRng2, dwEnum, dwZip, zipD_map, eqv_strS, plnL_T, frzL_T, dListOf, dIsN, dNotN, tN, dCat, dSl, dNoPart, dPart, dFor, dSetIx, dApp, dCall, dCallK, dPar, dOrT, dAndT, dYes, bodyE, keepPs, keepP, addK, subK, mulK, fdivK, modK, powK, ltK, leK, gtK, geK, eqK, neK, isK, isNotK, isNone, ixK, lenK, maxK, minK, absK, intK, strK, isIn_int, isIn_bool, isIn_list, isIn_tuple, isIn_str, truD, DL.T.frz, DL.T.pln, frzL, plnL, List.map_cons, List.map_nil, List.length_cons, List.length_nil, List.replicate_succ, List.replicate_zero, List.cons_append, List.nil_append, List.append_nil, List.getElem?_cons_zero, List.getElem?_cons_succ, List.getElem?_nil, List.set_cons_zero, List.set_cons_succ, List.set_nil, atI_0, atI_1, atI_2, atI_3, atI_4, ixN_0, ixN_1, ixN_2, plnL_dats, frzL_dats, allK_map, anyK_map, sumK_map, eqv_int, eqOk_int, eqOk_none, eqOk_bool, eqOk_str, bkOk, putBack, adr, pick, List.getD_cons_zero, List.getD_cons_succ, redat, wipeD, true_and, and_true, if_true, if_false, ite_true, ite_false, Bool.true_and, Bool.and_true, Bool.false_and, Bool.not_true, Bool.not_false, Option.getD_some, till]
    obtain ⟨Z, hZ, hZ1, hZ4⟩ : ∃ J : Int, atI [PyData.int (1 + u), PyData.int 6] fu = some (.int J) ∧ 1 ≤ J ∧ J ≤ 6 := by
      rcases hfu with rfl | rfl
      · exact ⟨_, atI_0 _ _, by omega, by omega⟩
      · exact ⟨_, atI_1 _ _ _, by omega, by omega⟩
    refine ⟨by decide, fun p2 => ?_⟩
    simp only [hZ]
    refine ⟨by omega, by omega, ?_⟩
    refine lc_inv Z.toNat (fun acc S => ∃ (l : List (Option (List (Option Int)))) (x y c : Int), acc = l.map (fun b => .dat (encD b)) ∧ (∀ b, some b ∈ l → WFb gs.length b) ∧ TillB (n + 50 + 20 * (l.length : Int)) x y c ∧ S = [some (till a x y c), some (.dat (.int fu)), some (.dat (.list (gs.map encG))), w, none]) _ [] _ ?_ (by simp [rngD_len]) (sz (by omega)) ⟨[], x3, y3, c3, rfl, by simp, t3.mono (by simp; omega), by simp [till]⟩ ?_
    · rintro d hd acc S hL ⟨l, x, y, c, rfl, hl, ht, rfl⟩ Q hQ
      simp only [List.length_map] at hL
      obtain ⟨i, hi, rfl⟩ := mem_rngD hd
      simp only [dSeq, dNext, dIf, dRet, dRetN, dSet, dDrop, dC, dVar, dMv, dOp, dTest, dTru, dNot, dAnd, dOr, dAndV, dOrV, dNotV, dIfE, dCons, dNil, dLst, dTup, dFrz, dNeg, dChain, dIx, dIxS, dCa, dIsi, dIsi2, dAsg, dgName, dgTup, dgCons, dgNil, dwSeq, dwTup, dwRng1, dwRng2, dwEnum, dwZip, zipD_map, eqv_strS, plnL_T, frzL_T, dListOf, dIsN, dNotN, tN, dCat, dSl, dNoPart, dPart, dFor, dSetIx, dApp, dCall, dCallK, dPar, dOrT, dAndT, dYes, bodyE, keepPs, keepP, addK, subK, mulK, fdivK, modK, powK, ltK, leK, gtK, geK, eqK, neK, isK, isNotK, isNone, ixK, lenK, maxK, minK, absK, intK, strK, isIn_int, isIn_bool, isIn_list, isIn_tuple, isIn_str, truD, DL.T.frz, DL.T.pln, frzL, plnL, List.map_cons, List.map_nil, List.length_cons, List.length_nil, List.replicate_succ, List.replicate_zero, List.cons_append, List.nil_append, List.append_nil, List.getElem?_cons_zero, List.getElem?_cons_succ, List.getElem?_nil, List.set_cons_zero, List.set_cons_succ, List.set_nil, atI_0, atI_1, atI_2, atI_3, atI_4, ixN_0, ixN_1, ixN_2, plnL_dats, frzL_dats, allK_map, anyK_map, sumK_map, eqv_int, eqOk_int, eqOk_none, eqOk_bool, eqOk_str, bkOk, putBack, adr, pick, List.getD_cons_zero, List.getD_cons_succ, redat, wipeD, true_and, and_true, if_true, if_false, ite_true, ite_false, Bool.true_and, Bool.and_true, Bool.false_and, Bool.not_true, Bool.not_false, Option.getD_some, till, sp_law_buyer, List.length_map]
      refine ⟨by decide, a, n + 50 + 20 * l.length, x, y, c, gs.length, rfl, ht, by omega, by omega, by omega, fun b x1 y1 c1 hb t1 => ?_⟩
      simp only [dSeq, dNext, dIf, dRet, dRetN, dSet, dDrop, dC, dVar, dMv, dOp, dTest, dTru, dNot, dAnd, dOr, dAndV, dOrV, dNotV, dIfE, dCons, dNil, dLst, dTup, dFrz, dNeg, dChain, dIx, dIxS, dCa, dIsi, dIsi2, dAsg, dgName, dgTup, dgCons, dgNil, dwSeq, dwTup, dwRng1, dwRng2, dwEnum, dwZip, zipD_map, eqv_strS, plnL_T, frzL_T, dListOf, dIsN, dNotN, tN, dCat, dSl, dNoPart, dPart, dFor, dSetIx, dApp, dCall, dCallK, dPar, dOrT, dAndT, dYes, bodyE, keepPs, keepP, addK, subK, mulK, fdivK, modK, powK, ltK, leK, gtK, geK, eqK, neK, isK, isNotK, isNone, ixK, lenK, maxK, minK, absK, intK, strK, isIn_int, isIn_bool, isIn_list, isIn_tuple, isIn_str, truD, DL.T.frz, DL.T.pln, frzL, plnL, List.map_cons, List.map_nil, List.length_cons, List.length_nil, List.replicate_succ, List.replicate_zero, List.cons_append, List.nil_append, List.append_nil, List.getElem?_cons_zero, List.getElem?_cons_succ, List.getElem?_nil, List.set_cons_zero, List.set_cons_succ, List.set_nil, atI_0, atI_1, atI_2, atI_3, atI_4, ixN_0, ixN_1, ixN_2, plnL_dats, frzL_dats, allK_map, anyK_map, sumK_map, eqv_int, eqOk_int, eqOk_none, eqOk_bool, eqOk_str, bkOk, putBack, adr, pick, List.getD_cons_zero, List.getD_cons_succ, redat, wipeD, true_and, and_true, if_true, if_false, ite_true, ite_false, Bool.true_and, Bool.and_true, Bool.false_and, Bool.not_true, Bool.not_false, Option.getD_some, till]
      simp
      refine hQ _ _ ⟨l ++ [b], x1, y1, c1, by simp, ?_, t1.mono (by simp; omega), by simp [dSeq, dNext, dIf, dRet, dRetN, dSet, dDrop, dC, dVar, dMv, dOp, dTest, dTru, dNot, dAnd, dOr, dAndV, dOrV, dNotV, dIfE, dCons, dNil, dLst, dTup, dFrz, dNeg, dChain, dIx, dIxS, dCa, dIsi, dIsi2, dAsg, dgName, dgTup, dgCons, dgNil, dwSeq, dwTup, dwRng1, dwRng2, dwEnum, dwZip, zipD_map, eqv_strS, plnL_T, frzL_T, dListOf, dIsN, dNotN, tN, dCat, dSl, dNoPart, dPart, dFor, dSetIx, dApp, dCall, dCallK, dPar, dOrT, dAndT, dYes, bodyE, keepPs, keepP, addK, subK, mulK, fdivK, modK, powK, ltK, leK, gtK, geK, eqK, neK, isK, isNotK, isNone, ixK, lenK, maxK, minK, absK, intK, strK, isIn_int, isIn_bool, isIn_list, isIn_tuple, isIn_str, truD, DL.T.frz, DL.T.pln, frzL, plnL, List.map_cons, List.map_nil, List.length_cons, List.length_nil, List.replicate_succ, List.replicate_zero, List.cons_append, List.nil_append, List.append_nil, List.getElem?_cons_zero, List.getElem?_cons_succ, List.getElem?_nil, List.set_cons_zero, List.set_cons_succ, List.set_nil, atI_0, atI_1, atI_2, atI_3, atI_4, ixN_0, ixN_1, ixN_2, plnL_dats, frzL_dats, allK_map, anyK_map, sumK_map, eqv_int, eqOk_int, eqOk_none, eqOk_bool, eqOk_str, bkOk, putBack, adr, pick, List.getD_cons_zero, List.getD_cons_succ, redat, wipeD, true_and, and_true, if_true, if_false, ite_true, ite_false, Bool.true_and, Bool.and_true, Bool.false_and, Bool.not_true, Bool.not_false, Option.getD_some, till]⟩
      intro b' hb'
      rcases List.mem_append.mp hb' with hb' | hb'
      · exact hl b' hb'
      · simp at hb'
        subst hb'
        simpa using hb b' rfl
    · rintro acc S hlen ⟨l, x, y, c, rfl, hl, ht, rfl⟩
      simp only [List.length_map] at hlen
      simp only [dSeq, dNext, dIf, dRet, dRetN, dSet, dDrop, dC, dVar, dMv, dOp, dTest, dTru, dNot, dAnd, dOr, dAndV, dOrV, dNotV, dIfE, dCons, dNil, dLst, dTup, dFrz, dNeg, dChain, dIx, dIxS, dCa, dIsi, dIsi2, dAsg, dgName, dgTup, dgCons, dgNil, dwSeq, dwTup, dwRng1, dwRng2, dwEnum, dwZip, zipD_map, eqv_strS, plnL_T, frzL_T, dListOf, dIsN, dNotN, tN, dCat, dSl, dNoPart, dPart, dFor, dSetIx, dApp, dCall, dCallK, dPar, dOrT, dAndT, dYes, bodyE, keepPs, keepP, addK, subK, mulK, fdivK, modK, powK, ltK, leK, gtK, geK, eqK, neK, isK, isNotK, isNone, ixK, lenK, maxK, minK, absK, intK, strK, isIn_int, isIn_bool, isIn_list, isIn_tuple, isIn_str, truD, DL.T.frz, DL.T.pln, frzL, plnL, List.map_cons, List.map_nil, List.length_cons, List.length_nil, List.replicate_succ, List.replicate_zero, List.cons_append, List.nil_append, List.append_nil, List.getElem?_cons_zero, List.getElem?_cons_succ, List.getElem?_nil, List.set_cons_zero, List.set_cons_succ, List.set_nil, atI_0, atI_1, atI_2, atI_3, atI_4, ixN_0, ixN_1, ixN_2, plnL_dats, frzL_dats, allK_map, anyK_map, sumK_map, eqv_int, eqOk_int, eqOk_none, eqOk_bool, eqOk_str, bkOk, putBack, adr, pick, List.getD_cons_zero, List.getD_cons_succ, redat, wipeD, true_and, and_true, if_true, if_false, ite_true, ite_false, Bool.true_and, Bool.and_true, Bool.false_and, Bool.not_true, Bool.not_false, Option.getD_some, till]
      intro D
      refine ⟨by decide, fun q => ?_⟩
      have := h ⟨gs, l⟩ x y c ⟨by show 1 ≤ gs.length; omega, by show gs.length ≤ 4; omega, hgs, by show 1 ≤ l.length; omega, by show l.length ≤ 6; omega, hl⟩ (ht.mono (by omega))
      simpa [encM, till] using this
def sp_law_take : FSp := fun As Q => ∃ (b : Option (List (Option Int))) (ps : List Int), As = [.dat (encD b), .dat (.list (ps.map .int))] ∧ ps.length ≤ 4 ∧ (∀ bs, b = some bs → bs.length = ps.length) ∧ Q (.dat (encO (takeD b ps))) [none, none]
theorem ok_law_take (tx : Txt K mg A) : FnOk P w K mg base CX0 1 A.a_law_take A.d_law_take ["who", "tags"] (spD K 2 sp_law_take) := by
  refine fn_okD (N := ["who", "tags", "found", "best", "ware"]) (k := 0) (sp := sp_law_take) tx.F_law_take sc_law_take ?_
  intro cdv Ar outer s H E hr
  refine Exists.intro _ (And.intro (pssd_cons (psd_set (i := 2) sc_law_take.nd pd_non) (pssd_cons (psd_set (i := 3) sc_law_take.nd (pd_neg pd_int)) (pssd_cons (psd_for PassesOwn.never rfl (pid_rng1 (by rfl) tx.n_range (pad_cons (pd_callB ca_len (by rfl) tx.n_len (by decide +kernel) (pad_cons (pdv 1) pad_nil)) pad_nil)) (pgd_name (i := 4) sc_law_take.nd) (pssd_one (psd_if ((pwd_and (ptd_cmp od_isNot (pdv 0) pd_non) (pwd_and (ptd_cmp od_isNot (pd_ix (pdv 0) (pdv 4)) pd_non) (pwd_and1 (ptd_cmp od_gt (pd_op od_sub (pd_ix (pdv 0) (pdv 4)) (pd_ix (pdv 1) (pdv 4))) (pdv 3)))))).pt (pssd_cons (psd_set (i := 3) sc_law_take.nd (pd_op od_sub (pd_ix (pdv 0) (pdv 4)) (pd_ix (pdv 1) (pdv 4)))) (pssd_one (psd_set (i := 2) sc_law_take.nd (pdv 4)))) pssd_nil))) (pssd_one (psd_ret (pdv 2)))))) ?_)
  intro As Qd hl h
  obtain ⟨b, ps, rfl, p4, hb, h⟩ := h
  cases b with
  | none =>
    simp only [dSeq, dNext, dIf, dRet, dRetN, dSet, dDrop, dC, dVar, dMv, dOp, dTest, dTru, dNot, dAnd, dOr, dAndV, dOrV, dNotV, dIfE, dCons, dNil, dLst, dTup, dFrz, dNeg, dChain, dIx, dIxS, dCa, dIsi, dIsi2, dAsg, dgName, dgTup, dgCons, dgNil, dwSeq, dwTup, dwRng1, dwRng2, dwEnum, dwZip, zipD_map, eqv_strS, plnL_T, frzL_T, dListOf, dIsN, dNotN, tN, dCat, dSl, dNoPart, dPart, dFor, dSetIx, dApp, dCall, dCallK, dPar, dOrT, dAndT, dYes, bodyE, keepPs, keepP, addK, subK, mulK, fdivK, modK, powK, ltK, leK, gtK, geK, eqK, neK, isK, isNotK, isNone, ixK, lenK, maxK, minK, absK, intK, strK, isIn_int, isIn_bool, isIn_list, isIn_tuple, isIn_str, truD, DL.T.frz, DL.T.pln, frzL, plnL, List.map_cons, List.map_nil, List.length_cons, List.length_nil, List.replicate_succ, List.replicate_zero, List.cons_append, List.nil_append, List.append_nil, List.getElem?_cons_zero, List.getElem?_cons_succ, List.getElem?_nil, List.set_cons_zero, List.set_cons_succ, List.set_nil, atI_0, atI_1, atI_2, atI_3, atI_4, ixN_0, ixN_1, ixN_2, plnL_dats, frzL_dats, allK_map, anyK_map, sumK_map, eqv_int, eqOk_int, eqOk_none, eqOk_bool, eqOk_str, bkOk, putBack, adr, pick, List.getD_cons_zero, List.getD_cons_succ, redat, wipeD, true_and, and_true, if_true, if_false, ite_true, ite_false, Bool.true_and, Bool.and_true, Bool.false_and, Bool.not_true, Bool.not_false, Option.getD_some, encD, List.length_map, Int.toNat_natCast]
    refine ⟨by decide, by decide, by omega, by omega, ?_⟩
    refine for_inv (fun k S => ∃ s4, S = [some (.dat .none), some (.dat (.list (ps.map .int))), some (.dat .none), some (.dat (.int (-1))), s4]) _ 0 _ ?_ ⟨_, rfl⟩ ?_
    · rintro k d S hd ⟨s4, rfl⟩ N hN
      obtain ⟨hk, rfl⟩ := get_rngD hd
      simp only [dSeq, dNext, dIf, dRet, dRetN, dSet, dDrop, dC, dVar, dMv, dOp, dTest, dTru, dNot, dAnd, dOr, dAndV, dOrV, dNotV, dIfE, dCons, dNil, dLst, dTup, dFrz, dNeg, dChain, dIx, dIxS, dCa, dIsi, dIsi2, dAsg, dgName, dgTup, dgCons, dgNil, dwSeq, dwTup, dwRng1, dwRng2, dwEnum, dwZip, zipD_map, eqv_strS, plnL_T, frzL_T, dListOf, dIsN, dNotN, tN, dCat, dSl, dNoPart, dPart, dFor, dSetIx, dApp, dCall, dCallK, dPar, dOrT, dAndT, dYes, bodyE, keepPs, keepP, addK, subK, mulK, fdivK, modK, powK, ltK, leK, gtK, geK, eqK, neK, isK, isNotK, isNone, ixK, lenK, maxK, minK, absK, intK, strK, isIn_int, isIn_bool, isIn_list, isIn_tuple, isIn_str, truD, DL.T.frz, DL.T.pln, frzL, plnL, List.map_cons, List.map_nil, List.length_cons, List.length_nil, List.replicate_succ, List.replicate_zero, List.cons_append, List.nil_append, List.append_nil, List.getElem?_cons_zero, List.getElem?_cons_succ, List.getElem?_nil, List.set_cons_zero, List.set_cons_succ, List.set_nil, atI_0, atI_1, atI_2, atI_3, atI_4, ixN_0, ixN_1, ixN_2, plnL_dats, frzL_dats, allK_map, anyK_map, sumK_map, eqv_int, eqOk_int, eqOk_none, eqOk_bool, eqOk_str, bkOk, putBack, adr, pick, List.getD_cons_zero, List.getD_cons_succ, redat, wipeD, true_and, and_true, if_true, if_false, ite_true, ite_false, Bool.true_and, Bool.and_true, Bool.false_and, Bool.not_true, Bool.not_false, Option.getD_some, isNone, Bool.false_eq_true]
      exact ⟨by decide, hN _ ⟨_, rfl⟩⟩
    · rintro S ⟨s4, rfl⟩
      simp only [dSeq, dNext, dIf, dRet, dRetN, dSet, dDrop, dC, dVar, dMv, dOp, dTest, dTru, dNot, dAnd, dOr, dAndV, dOrV, dNotV, dIfE, dCons, dNil, dLst, dTup, dFrz, dNeg, dChain, dIx, dIxS, dCa, dIsi, dIsi2, dAsg, dgName, dgTup, dgCons, dgNil, dwSeq, dwTup, dwRng1, dwRng2, dwEnum, dwZip, zipD_map, eqv_strS, plnL_T, frzL_T, dListOf, dIsN, dNotN, tN, dCat, dSl, dNoPart, dPart, dFor, dSetIx, dApp, dCall, dCallK, dPar, dOrT, dAndT, dYes, bodyE, keepPs, keepP, addK, subK, mulK, fdivK, modK, powK, ltK, leK, gtK, geK, eqK, neK, isK, isNotK, isNone, ixK, lenK, maxK, minK, absK, intK, strK, isIn_int, isIn_bool, isIn_list, isIn_tuple, isIn_str, truD, DL.T.frz, DL.T.pln, frzL, plnL, List.map_cons, List.map_nil, List.length_cons, List.length_nil, List.replicate_succ, List.replicate_zero, List.cons_append, List.nil_append, List.append_nil, List.getElem?_cons_zero, List.getElem?_cons_succ, List.getElem?_nil, List.set_cons_zero, List.set_cons_succ, List.set_nil, atI_0, atI_1, atI_2, atI_3, atI_4, ixN_0, ixN_1, ixN_2, plnL_dats, frzL_dats, allK_map, anyK_map, sumK_map, eqv_int, eqOk_int, eqOk_none, eqOk_bool, eqOk_str, bkOk, putBack, adr, pick, List.getD_cons_zero, List.getD_cons_succ, redat, wipeD, true_and, and_true, if_true, if_false, ite_true, ite_false, Bool.true_and, Bool.and_true, Bool.false_and, Bool.not_true, Bool.not_false, Option.getD_some]
      exact h
  | some bs =>
    have bl := hb bs rfl
    simp only [dSeq, dNext, dIf, dRet, dRetN, dSet, dDrop, dC, dVar, dMv, dOp, dTest, dTru, dNot, dAnd, dOr, dAndV, dOrV, dNotV, dIfE, dCons, dNil, dLst, dTup, dFrz, dNeg, dChain, dIx, dIxS, dCa, dIsi, dIsi2, dAsg, dgName, dgTup, dgCons, dgNil, dwSeq, dwTup, dwRng1, dwRng2, dwEnum, dwZip, zipD_map, eqv_strS, plnL_T, frzL_T, dListOf, dIsN, dNotN, tN, dCat, dSl, dNoPart, dPart, dFor, dSetIx, dApp, dCall, dCallK, dPar, dOrT, dAndT, dYes, bodyE, keepPs, keepP, addK, subK, mulK, fdivK, modK, powK, ltK, leK, gtK, geK, eqK, neK, isK, isNotK, isNone, ixK, lenK, maxK, minK, absK, intK, strK, isIn_int, isIn_bool, isIn_list, isIn_tuple, isIn_str, truD, DL.T.frz, DL.T.pln, frzL, plnL, List.map_cons, List.map_nil, List.length_cons, List.length_nil, List.replicate_succ, List.replicate_zero, List.cons_append, List.nil_append, List.append_nil, List.getElem?_cons_zero, List.getElem?_cons_succ, List.getElem?_nil, List.set_cons_zero, List.set_cons_succ, List.set_nil, atI_0, atI_1, atI_2, atI_3, atI_4, ixN_0, ixN_1, ixN_2, plnL_dats, frzL_dats, allK_map, anyK_map, sumK_map, eqv_int, eqOk_int, eqOk_none, eqOk_bool, eqOk_str, bkOk, putBack, adr, pick, List.getD_cons_zero, List.getD_cons_succ, redat, wipeD, true_and, and_true, if_true, if_false, ite_true, ite_false, Bool.true_and, Bool.and_true, Bool.false_and, Bool.not_true, Bool.not_false, Option.getD_some, encD, encB, List.length_map, Int.toNat_natCast]
    refine ⟨by decide, by decide, by omega, by omega, ?_⟩
    refine for_inv (fun k S => ∃ s4, S = [some (.dat (.list (bs.map encO))), some (.dat (.list (ps.map .int))), some (.dat (encO (tk (bs.zip ps) k).1)), some (.dat (.int (tk (bs.zip ps) k).2)), s4]) _ 0 _ ?_ ⟨_, rfl⟩ ?_
    · rintro k d S hd ⟨s4, rfl⟩ N hN
      obtain ⟨hk, rfl⟩ := get_rngD hd
      have hp : ps[k]? = some ps[k] := List.getElem?_eq_getElem hk
      have hbk : bs[k]? = some bs[k] := List.getElem?_eq_getElem (by omega)
      have hz := zip_get hbk hp
      simp only [Nat.zero_add, Int.zero_add] at hN ⊢
      generalize bs[k] = b at hbk hz
      cases b with
      | none =>
        rw [tk_none hz] at hN
        simp only [dSeq, dNext, dIf, dRet, dRetN, dSet, dDrop, dC, dVar, dMv, dOp, dTest, dTru, dNot, dAnd, dOr, dAndV, dOrV, dNotV, dIfE, dCons, dNil, dLst, dTup, dFrz, dNeg, dChain, dIx, dIxS, dCa, dIsi, dIsi2, dAsg, dgName, dgTup, dgCons, dgNil, dwSeq, dwTup, dwRng1, dwRng2, dwEnum, dwZip, zipD_map, eqv_strS, plnL_T, frzL_T, dListOf, dIsN, dNotN, tN, dCat, dSl, dNoPart, dPart, dFor, dSetIx, dApp, dCall, dCallK, dPar, dOrT, dAndT, dYes, bodyE, keepPs, keepP, addK, subK, mulK, fdivK, modK, powK, ltK, leK, gtK, geK, eqK, neK, isK, isNotK, isNone, ixK, lenK, maxK, minK, absK, intK, strK, isIn_int, isIn_bool, isIn_list, isIn_tuple, isIn_str, truD, DL.T.frz, DL.T.pln, frzL, plnL, List.map_cons, List.map_nil, List.length_cons, List.length_nil, List.replicate_succ, List.replicate_zero, List.cons_append, List.nil_append, List.append_nil, List.getElem?_cons_zero, List.getElem?_cons_succ, List.getElem?_nil, List.set_cons_zero, List.set_cons_succ, List.set_nil, atI_0, atI_1, atI_2, atI_3, atI_4, ixN_0, ixN_1, ixN_2, plnL_dats, frzL_dats, allK_map, anyK_map, sumK_map, eqv_int, eqOk_int, eqOk_none, eqOk_bool, eqOk_str, bkOk, putBack, adr, pick, List.getD_cons_zero, List.getD_cons_succ, redat, wipeD, true_and, and_true, if_true, if_false, ite_true, ite_false, Bool.true_and, Bool.and_true, Bool.false_and, Bool.not_true, Bool.not_false, Option.getD_some, encO, isNone, atI_nat', List.getElem?_map, hbk, hp, Option.map_some, Bool.false_eq_true]
        exact ⟨by decide, hN _ ⟨_, rfl⟩⟩
      | some w =>
        rw [tk_some hz] at hN
        simp only [dSeq, dNext, dIf, dRet, dRetN, dSet, dDrop, dC, dVar, dMv, dOp, dTest, dTru, dNot, dAnd, dOr, dAndV, dOrV, dNotV, dIfE, dCons, dNil, dLst, dTup, dFrz, dNeg, dChain, dIx, dIxS, dCa, dIsi, dIsi2, dAsg, dgName, dgTup, dgCons, dgNil, dwSeq, dwTup, dwRng1, dwRng2, dwEnum, dwZip, zipD_map, eqv_strS, plnL_T, frzL_T, dListOf, dIsN, dNotN, tN, dCat, dSl, dNoPart, dPart, dFor, dSetIx, dApp, dCall, dCallK, dPar, dOrT, dAndT, dYes, bodyE, keepPs, keepP, addK, subK, mulK, fdivK, modK, powK, ltK, leK, gtK, geK, eqK, neK, isK, isNotK, isNone, ixK, lenK, maxK, minK, absK, intK, strK, isIn_int, isIn_bool, isIn_list, isIn_tuple, isIn_str, truD, DL.T.frz, DL.T.pln, frzL, plnL, List.map_cons, List.map_nil, List.length_cons, List.length_nil, List.replicate_succ, List.replicate_zero, List.cons_append, List.nil_append, List.append_nil, List.getElem?_cons_zero, List.getElem?_cons_succ, List.getElem?_nil, List.set_cons_zero, List.set_cons_succ, List.set_nil, atI_0, atI_1, atI_2, atI_3, atI_4, ixN_0, ixN_1, ixN_2, plnL_dats, frzL_dats, allK_map, anyK_map, sumK_map, eqv_int, eqOk_int, eqOk_none, eqOk_bool, eqOk_str, bkOk, putBack, adr, pick, List.getD_cons_zero, List.getD_cons_succ, redat, wipeD, true_and, and_true, if_true, if_false, ite_true, ite_false, Bool.true_and, Bool.and_true, Bool.false_and, Bool.not_true, Bool.not_false, Option.getD_some, encO, isNone, atI_nat', List.getElem?_map, hbk, hp, Option.map_some]
        refine ⟨by decide, ?_⟩
        by_cases hw : w - ps[k] > (tk (bs.zip ps) k).2
        · rw [if_pos hw] at hN
          rw [if_pos (by simp only [decide_eq_true_eq]; exact hw)]
          exact ⟨by decide, by decide, hN _ ⟨_, rfl⟩⟩
        · rw [if_neg hw] at hN
          rw [if_neg (by simp only [decide_eq_true_eq]; exact hw)]
          exact hN _ ⟨_, rfl⟩
    · rintro S ⟨s4, rfl⟩
      rw [rngD_len, Nat.zero_add]
      simp only [dSeq, dNext, dIf, dRet, dRetN, dSet, dDrop, dC, dVar, dMv, dOp, dTest, dTru, dNot, dAnd, dOr, dAndV, dOrV, dNotV, dIfE, dCons, dNil, dLst, dTup, dFrz, dNeg, dChain, dIx, dIxS, dCa, dIsi, dIsi2, dAsg, dgName, dgTup, dgCons, dgNil, dwSeq, dwTup, dwRng1, dwRng2, dwEnum, dwZip, zipD_map, eqv_strS, plnL_T, frzL_T, dListOf, dIsN, dNotN, tN, dCat, dSl, dNoPart, dPart, dFor, dSetIx, dApp, dCall, dCallK, dPar, dOrT, dAndT, dYes, bodyE, keepPs, keepP, addK, subK, mulK, fdivK, modK, powK, ltK, leK, gtK, geK, eqK, neK, isK, isNotK, isNone, ixK, lenK, maxK, minK, absK, intK, strK, isIn_int, isIn_bool, isIn_list, isIn_tuple, isIn_str, truD, DL.T.frz, DL.T.pln, frzL, plnL, List.map_cons, List.map_nil, List.length_cons, List.length_nil, List.replicate_succ, List.replicate_zero, List.cons_append, List.nil_append, List.append_nil, List.getElem?_cons_zero, List.getElem?_cons_succ, List.getElem?_nil, List.set_cons_zero, List.set_cons_succ, List.set_nil, atI_0, atI_1, atI_2, atI_3, atI_4, ixN_0, ixN_1, ixN_2, plnL_dats, frzL_dats, allK_map, anyK_map, sumK_map, eqv_int, eqOk_int, eqOk_none, eqOk_bool, eqOk_str, bkOk, putBack, adr, pick, List.getD_cons_zero, List.getD_cons_succ, redat, wipeD, true_and, and_true, if_true, if_false, ite_true, ite_false, Bool.true_and, Bool.and_true, Bool.false_and, Bool.not_true, Bool.not_false, Option.getD_some]
      simp only [takeD, bl] at h
      exact h
def sp_law_tags : FSp := fun As Q => ∃ (a : Addr) (n x y c : Int) (b : Option (List (Option Int))) (many : Nat), As = [till a x y c, .dat (encD b), .dat (.int many)] ∧ TillB n x y c ∧ n ≤ 900000 ∧ many ≤ 4 ∧ (∀ bs, b = some bs → WFb many bs) ∧
  ∀ (ps : List Int) x' y' c' p, ps.length = many → (∀ q ∈ ps, -1000000 ≤ q ∧ q ≤ 1000000) → TillB (n + 50) x' y' c' → Q (.node .lst p (ps.map fun c => .dat (.int c))) [some (till a x' y' c'), none, none]
theorem ok_law_tags (tx : Txt K mg A) : FnOk P w K mg base CX0 2 A.a_law_tags A.d_law_tags ["till", "buyer", "many"] (spD K 3 sp_law_tags) := by
  refine fn_okD (N := ["till", "buyer", "many", "found", "way", "ware", "worth", "some"]) (k := 1) (sp := sp_law_tags) tx.F_law_tags sc_law_tags ?_
  intro cdv Ar outer s H E hr
  refine Exists.intro _ (And.intro (pssd_cons (psd_set (i := 3) sc_law_tags.nd (pd_lst pad_nil)) (pssd_cons (psd_set (i := 4) sc_law_tags.nd (pd_call (dv := []) (dvs := []) (ok_law_pull tx) (hr.mono (by decide)) (by rfl) tx.F_law_pull.g tx.F_law_pull.F.kp (b_law_pull tx) .nil rfl [(0, 0)] (pad_cons (pdm 0) (pad_cons pd_int pad_nil)))) (pssd_cons (psd_for PassesOwn.never rfl (pid_rng1 (by rfl) tx.n_range (pad_cons (pdv 2) pad_nil)) (pgd_name (i := 5) sc_law_tags.nd) (pssd_cons (psd_set (i := 6) sc_law_tags.nd pd_int) (pssd_cons (psd_if ((pwd_and (ptd_cmp od_isNot (pdv 1) pd_non) (pwd_and1 (ptd_cmp od_isNot (pd_ix (pdv 1) (pdv 5)) pd_non)))).pt (pssd_one (psd_set (i := 6) sc_law_tags.nd (pd_ix (pdv 1) (pdv 5)))) pssd_nil) (pssd_cons (psd_set (i := 7) sc_law_tags.nd (pd_frz (pd_lst (pad_cons (pdv 6) (pad_cons (pd_op od_sub (pdv 6) (pd_call (dv := []) (dvs := []) (ok_law_pull tx) (hr.mono (by decide)) (by rfl) tx.F_law_pull.g tx.F_law_pull.F.kp (b_law_pull tx) .nil rfl [(0, 0)] (pad_cons (pdm 0) (pad_cons pd_int pad_nil)))) (pad_cons (pd_op od_sub (pd_op od_add (pdv 6) pd_int) (pd_call (dv := []) (dvs := []) (ok_law_pull tx) (hr.mono (by decide)) (by rfl) tx.F_law_pull.g tx.F_law_pull.F.kp (b_law_pull tx) .nil rfl [(0, 0)] (pad_cons (pdm 0) (pad_cons pd_int pad_nil)))) (pad_cons (pd_op od_sub (pdv 6) (pd_call (dv := []) (dvs := []) (ok_law_pull tx) (hr.mono (by decide)) (by rfl) tx.F_law_pull.g tx.F_law_pull.F.kp (b_law_pull tx) .nil rfl [(0, 0)] (pad_cons (pdm 0) (pad_cons pd_int pad_nil)))) pad_nil))))))) (pssd_cons (psd_set (i := 7) sc_law_tags.nd (pd_frz (pd_cat (pdv 7) (pd_frz (pd_lst (pad_cons (pd_op od_sub (pd_call (dv := []) (dvs := []) (ok_law_pull tx) (hr.mono (by decide)) (by rfl) tx.F_law_pull.g tx.F_law_pull.F.kp (b_law_pull tx) .nil rfl [(0, 0)] (pad_cons (pdm 0) (pad_cons pd_int pad_nil))) pd_int) (pad_cons (pd_ix (pd_frz (pd_lst (pad_cons pd_int (pad_cons (pd_neg pd_int) pad_nil)))) (pd_call (dv := []) (dvs := []) (ok_law_pull tx) (hr.mono (by decide)) (by rfl) tx.F_law_pull.g tx.F_law_pull.F.kp (b_law_pull tx) .nil rfl [(0, 0)] (pad_cons (pdm 0) (pad_cons pd_int pad_nil)))) pad_nil))))))) (pssd_one (psd_app 3 (pd_ix (pdv 7) (pd_ifE (ptd_cmp od_lt (pdv 4) pd_int) (pdv 4) (pd_call (dv := []) (dvs := []) (ok_law_pull tx) (hr.mono (by decide)) (by rfl) tx.F_law_pull.g tx.F_law_pull.F.kp (b_law_pull tx) .nil rfl [(0, 0)] (pad_cons (pdm 0) (pad_cons pd_int pad_nil))))) (hx := pe_bm PySem.F.plainAttrs_list PySem.F.slot_list_append PySem.F.type_list_append mt_append (pv 3) (pa_cons (pd_ix (pdv 7) (pd_ifE (ptd_cmp od_lt (pdv 4) pd_int) (pdv 4) (pd_call (dv := []) (dvs := []) (ok_law_pull tx) (hr.mono (by decide)) (by rfl) tx.F_law_pull.g tx.F_law_pull.F.kp (b_law_pull tx) .nil rfl [(0, 0)] (pad_cons (pdm 0) (pad_cons pd_int pad_nil))))) pa_nil))))))))) (pssd_one (psd_ret (pdm 3)))))) ?_)
  intro As Qd hl h
  obtain ⟨a, n, x, y, c, b, many, rfl, ht, hn, m4, hb, h⟩ := h
  simp only [dSeq, dNext, dIf, dRet, dRetN, dSet, dDrop, dC, dVar, dMv, dOp, dTest, dTru, dNot, dAnd, dOr, dAndV, dOrV, dNotV, dIfE, dCons, dNil, dLst, dTup, dFrz, dNeg, dChain, dIx, dIxS, dCa, dIsi, dIsi2, dAsg, dgName, dgTup, dgCons, dgNil, dwSeq, dwTup, dwRng1, dwRng2, dwEnum, dwZip, zipD_map, eqv_strS, plnL_T, frzL_T, dListOf, dIsN, dNotN, tN, dCat, dSl, dNoPart, dPart, dFor, dSetIx, dApp, dCall, dCallK, dPar, dOrT, dAndT, dYes, bodyE, keepPs, keepP, addK, subK, mulK, fdivK, modK, powK, ltK, leK, gtK, geK, eqK, neK, isK, isNotK, isNone, ixK, lenK, maxK, minK, absK, intK, strK, isIn_int, isIn_bool, isIn_list, isIn_tuple, isIn_str, truD, DL.T.frz, DL.T.pln, frzL, plnL, List.map_cons, List.map_nil, List.length_cons, List.length_nil, List.replicate_succ, List.replicate_zero, List.cons_append, List.nil_append, List.append_nil, List.getElem?_cons_zero, List.getElem?_cons_succ, List.getElem?_nil, List.set_cons_zero, List.set_cons_succ, List.set_nil, atI_0, atI_1, atI_2, atI_3, atI_4, ixN_0, ixN_1, ixN_2, plnL_dats, frzL_dats, allK_map, anyK_map, sumK_map, eqv_int, eqOk_int, eqOk_none, eqOk_bool, eqOk_str, bkOk, putBack, adr, pick, List.getD_cons_zero, List.getD_cons_succ, redat, wipeD, true_and, and_true, if_true, if_false, ite_true, ite_false, Bool.true_and, Bool.and_true, Bool.false_and, Bool.not_true, Bool.not_false, Option.getD_some, till, sp_law_pull]
  refine ⟨sz (by decide), fun p => ⟨by decide, a, n, x, y, c, 6, rfl, ht, by omega, by omega, by omega, fun way x1 y1 c1 w0 w1 t1 => ?_⟩⟩
  simp only [dSeq, dNext, dIf, dRet, dRetN, dSet, dDrop, dC, dVar, dMv, dOp, dTest, dTru, dNot, dAnd, dOr, dAndV, dOrV, dNotV, dIfE, dCons, dNil, dLst, dTup, dFrz, dNeg, dChain, dIx, dIxS, dCa, dIsi, dIsi2, dAsg, dgName, dgTup, dgCons, dgNil, dwSeq, dwTup, dwRng1, dwRng2, dwEnum, dwZip, zipD_map, eqv_strS, plnL_T, frzL_T, dListOf, dIsN, dNotN, tN, dCat, dSl, dNoPart, dPart, dFor, dSetIx, dApp, dCall, dCallK, dPar, dOrT, dAndT, dYes, bodyE, keepPs, keepP, addK, subK, mulK, fdivK, modK, powK, ltK, leK, gtK, geK, eqK, neK, isK, isNotK, isNone, ixK, lenK, maxK, minK, absK, intK, strK, isIn_int, isIn_bool, isIn_list, isIn_tuple, isIn_str, truD, DL.T.frz, DL.T.pln, frzL, plnL, List.map_cons, List.map_nil, List.length_cons, List.length_nil, List.replicate_succ, List.replicate_zero, List.cons_append, List.nil_append, List.append_nil, List.getElem?_cons_zero, List.getElem?_cons_succ, List.getElem?_nil, List.set_cons_zero, List.set_cons_succ, List.set_nil, atI_0, atI_1, atI_2, atI_3, atI_4, ixN_0, ixN_1, ixN_2, plnL_dats, frzL_dats, allK_map, anyK_map, sumK_map, eqv_int, eqOk_int, eqOk_none, eqOk_bool, eqOk_str, bkOk, putBack, adr, pick, List.getD_cons_zero, List.getD_cons_succ, redat, wipeD, true_and, and_true, if_true, if_false, ite_true, ite_false, Bool.true_and, Bool.and_true, Bool.false_and, Bool.not_true, Bool.not_false, Option.getD_some, till, Int.toNat_natCast]
  refine ⟨by decide, by omega, by omega, ?_⟩
  refine for_inv (fun j S => ∃ (ps : List Int) (x y c : Int) (s5 s6 s7 : Option T), ps.length = j ∧ (∀ q ∈ ps, -1000000 ≤ q ∧ q ≤ 1000000) ∧ TillB (n + 1 + 10 * (j : Int)) x y c ∧ S = [some (till a x y c), some (.dat (encD b)), some (.dat (.int many)), some (.node .lst p (ps.map fun c => .dat (.int c))), some (.dat (.int way)), s5, s6, s7]) _ 0 _ ?_ ⟨[], x1, y1, c1, _, _, _, rfl, by simp, t1.mono (by omega), rfl⟩ ?_
  · rintro j d S hd ⟨ps, x, y, c, s5, s6, s7, hj, hps, ht, rfl⟩ N hN
    obtain ⟨hjm, rfl⟩ := get_rngD hd
    simp only [Nat.zero_add, Int.zero_add] at hj ht hN ⊢
    have hpl : ps.length ≤ 4 := by omega
    cases b with
    | none =>
      simp only [dSeq, dNext, dIf, dRet, dRetN, dSet, dDrop, dC, dVar, dMv, dOp, dTest, dTru, dNot, dAnd, dOr, dAndV, dOrV, dNotV, dIfE, dCons, dNil, dLst, dTup, dFrz, dNeg, dChain, dIx, dIxS, dCa, dIsi, dIsi2, dAsg, dgName, dgTup, dgCons, dgNil, dwSeq, dwTup, dwRng1, dwRng2, dwEnum, dwZip, zipD_map, eqv_strS, plnL_T, frzL_T, dListOf, dIsN, dNotN, tN, dCat, dSl, dNoPart, dPart, dFor, dSetIx, dApp, dCall, dCallK, dPar, dOrT, dAndT, dYes, bodyE, keepPs, keepP, addK, subK, mulK, fdivK, modK, powK, ltK, leK, gtK, geK, eqK, neK, isK, isNotK, isNone, ixK, lenK, maxK, minK, absK, intK, strK, isIn_int, isIn_bool, isIn_list, isIn_tuple, isIn_str, truD, DL.T.frz, DL.T.pln, frzL, plnL, List.map_cons, List.map_nil, List.length_cons, List.length_nil, List.replicate_succ, List.replicate_zero, List.cons_append, List.nil_append, List.append_nil, List.getElem?_cons_zero, List.getElem?_cons_succ, List.getElem?_nil, List.set_cons_zero, List.set_cons_succ, List.set_nil, atI_0, atI_1, atI_2, atI_3, atI_4, ixN_0, ixN_1, ixN_2, plnL_dats, frzL_dats, allK_map, anyK_map, sumK_map, eqv_int, eqOk_int, eqOk_none, eqOk_bool, eqOk_str, bkOk, putBack, adr, pick, List.getD_cons_zero, List.getD_cons_succ, redat, wipeD, true_and, and_true, if_true, if_false, ite_true, ite_false, Bool.true_and, Bool.and_true, Bool.false_and, Bool.not_true, Bool.not_false, Option.getD_some, till, encD, isNone, sp_law_pull, Bool.false_eq_true]
      refine ⟨by decide, ?_⟩
      refine ⟨by decide, a, n + 1 + 10 * j, x, y, c, 2, rfl, ht, by omega, by omega, by omega, fun r2 x2 y2 c2 r20 r21 t2 => ?_⟩
      simp only [dSeq, dNext, dIf, dRet, dRetN, dSet, dDrop, dC, dVar, dMv, dOp, dTest, dTru, dNot, dAnd, dOr, dAndV, dOrV, dNotV, dIfE, dCons, dNil, dLst, dTup, dFrz, dNeg, dChain, dIx, dIxS, dCa, dIsi, dIsi2, dAsg, dgName, dgTup, dgCons, dgNil, dwSeq, dwTup, dwRng1, dwRng2, dwEnum, dwZip, zipD_map, eqv_strS, plnL_T, frzL_T, dListOf, dIsN, dNotN, tN, dCat, dSl, dNoPart, dPart, dFor, dSetIx, dApp, dCall, dCallK, dPar, dOrT, dAndT, dYes, bodyE, keepPs, keepP, addK, subK, mulK, fdivK, modK, powK, ltK, leK, gtK, geK, eqK, neK, isK, isNotK, isNone, ixK, lenK, maxK, minK, absK, intK, strK, isIn_int, isIn_bool, isIn_list, isIn_tuple, isIn_str, truD, DL.T.frz, DL.T.pln, frzL, plnL, List.map_cons, List.map_nil, List.length_cons, List.length_nil, List.replicate_succ, List.replicate_zero, List.cons_append, List.nil_append, List.append_nil, List.getElem?_cons_zero, List.getElem?_cons_succ, List.getElem?_nil, List.set_cons_zero, List.set_cons_succ, List.set_nil, atI_0, atI_1, atI_2, atI_3, atI_4, ixN_0, ixN_1, ixN_2, plnL_dats, frzL_dats, allK_map, anyK_map, sumK_map, eqv_int, eqOk_int, eqOk_none, eqOk_bool, eqOk_str, bkOk, putBack, adr, pick, List.getD_cons_zero, List.getD_cons_succ, redat, wipeD, true_and, and_true, if_true, if_false, ite_true, ite_false, Bool.true_and, Bool.and_true, Bool.false_and, Bool.not_true, Bool.not_false, Option.getD_some, till]
      refine ⟨a, n + 1 + 10 * j + 1, x2, y2, c2, 3, rfl, t2, by omega, by omega, by omega, fun r3 x3 y3 c3 r30 r31 t3 => ?_⟩
      simp only [dSeq, dNext, dIf, dRet, dRetN, dSet, dDrop, dC, dVar, dMv, dOp, dTest, dTru, dNot, dAnd, dOr, dAndV, dOrV, dNotV, dIfE, dCons, dNil, dLst, dTup, dFrz, dNeg, dChain, dIx, dIxS, dCa, dIsi, dIsi2, dAsg, dgName, dgTup, dgCons, dgNil, dwSeq, dwTup, dwRng1, dwRng2, dwEnum, dwZip, zipD_map, eqv_strS, plnL_T, frzL_T, dListOf, dIsN, dNotN, tN, dCat, dSl, dNoPart, dPart, dFor, dSetIx, dApp, dCall, dCallK, dPar, dOrT, dAndT, dYes, bodyE, keepPs, keepP, addK, subK, mulK, fdivK, modK, powK, ltK, leK, gtK, geK, eqK, neK, isK, isNotK, isNone, ixK, lenK, maxK, minK, absK, intK, strK, isIn_int, isIn_bool, isIn_list, isIn_tuple, isIn_str, truD, DL.T.frz, DL.T.pln, frzL, plnL, List.map_cons, List.map_nil, List.length_cons, List.length_nil, List.replicate_succ, List.replicate_zero, List.cons_append, List.nil_append, List.append_nil, List.getElem?_cons_zero, List.getElem?_cons_succ, List.getElem?_nil, List.set_cons_zero, List.set_cons_succ, List.set_nil, atI_0, atI_1, atI_2, atI_3, atI_4, ixN_0, ixN_1, ixN_2, plnL_dats, frzL_dats, allK_map, anyK_map, sumK_map, eqv_int, eqOk_int, eqOk_none, eqOk_bool, eqOk_str, bkOk, putBack, adr, pick, List.getD_cons_zero, List.getD_cons_succ, redat, wipeD, true_and, and_true, if_true, if_false, ite_true, ite_false, Bool.true_and, Bool.and_true, Bool.false_and, Bool.not_true, Bool.not_false, Option.getD_some, till]
      refine ⟨a, n + 1 + 10 * j + 1 + 1, x3, y3, c3, 200, rfl, t3, by omega, by omega, by omega, fun r4 x4 y4 c4 r40 r41 t4 => ?_⟩
      simp only [dSeq, dNext, dIf, dRet, dRetN, dSet, dDrop, dC, dVar, dMv, dOp, dTest, dTru, dNot, dAnd, dOr, dAndV, dOrV, dNotV, dIfE, dCons, dNil, dLst, dTup, dFrz, dNeg, dChain, dIx, dIxS, dCa, dIsi, dIsi2, dAsg, dgName, dgTup, dgCons, dgNil, dwSeq, dwTup, dwRng1, dwRng2, dwEnum, dwZip, zipD_map, eqv_strS, plnL_T, frzL_T, dListOf, dIsN, dNotN, tN, dCat, dSl, dNoPart, dPart, dFor, dSetIx, dApp, dCall, dCallK, dPar, dOrT, dAndT, dYes, bodyE, keepPs, keepP, addK, subK, mulK, fdivK, modK, powK, ltK, leK, gtK, geK, eqK, neK, isK, isNotK, isNone, ixK, lenK, maxK, minK, absK, intK, strK, isIn_int, isIn_bool, isIn_list, isIn_tuple, isIn_str, truD, DL.T.frz, DL.T.pln, frzL, plnL, List.map_cons, List.map_nil, List.length_cons, List.length_nil, List.replicate_succ, List.replicate_zero, List.cons_append, List.nil_append, List.append_nil, List.getElem?_cons_zero, List.getElem?_cons_succ, List.getElem?_nil, List.set_cons_zero, List.set_cons_succ, List.set_nil, atI_0, atI_1, atI_2, atI_3, atI_4, ixN_0, ixN_1, ixN_2, plnL_dats, frzL_dats, allK_map, anyK_map, sumK_map, eqv_int, eqOk_int, eqOk_none, eqOk_bool, eqOk_str, bkOk, putBack, adr, pick, List.getD_cons_zero, List.getD_cons_succ, redat, wipeD, true_and, and_true, if_true, if_false, ite_true, ite_false, Bool.true_and, Bool.and_true, Bool.false_and, Bool.not_true, Bool.not_false, Option.getD_some, till]
      refine ⟨sz (by decide), fun p1 => ⟨by decide, a, n + 1 + 10 * j + 1 + 1 + 1, x4, y4, c4, 2000001, rfl, t4, by omega, by omega, by omega, fun r5 x5 y5 c5 r50 r51 t5 => ?_⟩⟩
      simp only [dSeq, dNext, dIf, dRet, dRetN, dSet, dDrop, dC, dVar, dMv, dOp, dTest, dTru, dNot, dAnd, dOr, dAndV, dOrV, dNotV, dIfE, dCons, dNil, dLst, dTup, dFrz, dNeg, dChain, dIx, dIxS, dCa, dIsi, dIsi2, dAsg, dgName, dgTup, dgCons, dgNil, dwSeq, dwTup, dwRng1, dwRng2, dwEnum, dwZip, zipD_map, eqv_strS, plnL_T, frzL_T, dListOf, dIsN, dNotN, tN, dCat, dSl, dNoPart, dPart, dFor, dSetIx, dApp, dCall, dCallK, dPar, dOrT, dAndT, dYes, bodyE, keepPs, keepP, addK, subK, mulK, fdivK, modK, powK, ltK, leK, gtK, geK, eqK, neK, isK, isNotK, isNone, ixK, lenK, maxK, minK, absK, intK, strK, isIn_int, isIn_bool, isIn_list, isIn_tuple, isIn_str, truD, DL.T.frz, DL.T.pln, frzL, plnL, List.map_cons, List.map_nil, List.length_cons, List.length_nil, List.replicate_succ, List.replicate_zero, List.cons_append, List.nil_append, List.append_nil, List.getElem?_cons_zero, List.getElem?_cons_succ, List.getElem?_nil, List.set_cons_zero, List.set_cons_succ, List.set_nil, atI_0, atI_1, atI_2, atI_3, atI_4, ixN_0, ixN_1, ixN_2, plnL_dats, frzL_dats, allK_map, anyK_map, sumK_map, eqv_int, eqOk_int, eqOk_none, eqOk_bool, eqOk_str, bkOk, putBack, adr, pick, List.getD_cons_zero, List.getD_cons_succ, redat, wipeD, true_and, and_true, if_true, if_false, ite_true, ite_false, Bool.true_and, Bool.and_true, Bool.false_and, Bool.not_true, Bool.not_false, Option.getD_some, till]
      refine ⟨sz (by decide), fun p2 => ⟨a, n + 1 + 10 * j + 1 + 1 + 1 + 1, x5, y5, c5, 2, rfl, t5, by omega, by omega, by omega, fun r6 x6 y6 c6 r60 r61 t6 => ?_⟩⟩
      obtain ⟨z, hz, hz2⟩ : ∃ z : Int, atI [PyData.int 1000000, .int (-1000000)] r6 = some (.int z) ∧ (z = 1000000 ∨ z = -1000000) := by
        have : r6 = 0 ∨ r6 = 1 := by omega
        rcases this with rfl | rfl
        · exact ⟨_, atI_0 _ _, .inl rfl⟩
        · exact ⟨_, atI_1 _ _ _, .inr rfl⟩
      simp only [dSeq, dNext, dIf, dRet, dRetN, dSet, dDrop, dC, dVar, dMv, dOp, dTest, dTru, dNot, dAnd, dOr, dAndV, dOrV, dNotV, dIfE, dCons, dNil, dLst, dTup, dFrz, dNeg, dChain, dIx, dIxS, dCa, dIsi, dIsi2, dAsg, dgName, dgTup, dgCons, dgNil, dwSeq, dwTup, dwRng1, dwRng2, dwEnum, dwZip, zipD_map, eqv_strS, plnL_T, frzL_T, dListOf, dIsN, dNotN, tN, dCat, dSl, dNoPart, dPart, dFor, dSetIx, dApp, dCall, dCallK, dPar, dOrT, dAndT, dYes, bodyE, keepPs, keepP, addK, subK, mulK, fdivK, modK, powK, ltK, leK, gtK, geK, eqK, neK, isK, isNotK, isNone, ixK, lenK, maxK, minK, absK, intK, strK, isIn_int, isIn_bool, isIn_list, isIn_tuple, isIn_str, truD, DL.T.frz, DL.T.pln, frzL, plnL, List.map_cons, List.map_nil, List.length_cons, List.length_nil, List.replicate_succ, List.replicate_zero, List.cons_append, List.nil_append, List.append_nil, List.getElem?_cons_zero, List.getElem?_cons_succ, List.getElem?_nil, List.set_cons_zero, List.set_cons_succ, List.set_nil, atI_0, atI_1, atI_2, atI_3, atI_4, ixN_0, ixN_1, ixN_2, plnL_dats, frzL_dats, allK_map, anyK_map, sumK_map, eqv_int, eqOk_int, eqOk_none, eqOk_bool, eqOk_str, bkOk, putBack, adr, pick, List.getD_cons_zero, List.getD_cons_succ, redat, wipeD, true_and, and_true, if_true, if_false, ite_true, ite_false, Bool.true_and, Bool.and_true, Bool.false_and, Bool.not_true, Bool.not_false, Option.getD_some, till, hz]
      refine ⟨sz (by decide), fun p3 => ⟨sz (by decide), fun p4 => ⟨by decide, ?_⟩⟩⟩
      have pick6 : ∀ r : Int, 0 ≤ r → r < 6 → ∃ v : Int, atI [PyData.int (0), .int (0 - r2), .int (0 + 1 - r3), .int (0 - r4), .int (r5 - 1000000), .int z] r = some (.int v) ∧ -1000000 ≤ v ∧ v ≤ 1000000 := by
        intro r a0 a1
        have : r = 0 ∨ r = 1 ∨ r = 2 ∨ r = 3 ∨ r = 4 ∨ r = 5 := by omega
        rcases this with rfl | rfl | rfl | rfl | rfl | rfl
        · exact ⟨_, atI_0 _ _, by omega, by omega⟩
        · exact ⟨_, atI_1 _ _ _, by omega, by omega⟩
        · exact ⟨_, atI_2 _ _ _ _, by omega, by omega⟩
        · exact ⟨_, atI_3 _ _ _ _ _, by omega, by omega⟩
        · exact ⟨_, atI_4 _ _ _ _ _ _, by omega, by omega⟩
        · exact ⟨z, (atI_nat' (i := 5)).trans rfl, by omega, by omega⟩
      have fin : ∀ v x' y' c', -1000000 ≤ v → v ≤ 1000000 → TillB (n + 1 + 10 * (j : Int) + 10) x' y' c' → ∀ s5 s6 s7 : Option T, N [some (till a x' y' c'), some (.dat .none), some (.dat (.int many)), some (.node .lst p ((ps.map fun c => T.dat (.int c)) ++ [T.dat (.int v)])), some (.dat (.int way)), s5, s6, s7] := fun v x' y' c' v0 v1 t' s5 s6 s7 => hN _ ⟨ps ++ [v], x', y', c', s5, s6, s7, by simp [hj], fun q hq => by
        rcases List.mem_append.mp hq with hq | hq
        · exact hps q hq
        · simp at hq
          omega, t'.mono (by omega), by simp [encD, encB]⟩
      by_cases hway : way < 5
      · obtain ⟨v, hv, v0, v1⟩ := pick6 way w0 (by omega)
        rw [if_pos (by simp only [decide_eq_true_eq]; exact hway)]
        simp only [hv]
        exact ⟨sz (by simp; omega), fin v x6 y6 c6 v0 v1 (t6.mono (by omega)) _ _ _⟩
      · rw [if_neg (by simp only [decide_eq_true_eq]; exact hway)]
        refine ⟨a, n + 1 + 10 * j + 1 + 1 + 1 + 1 + 1, x6, y6, c6, 6, rfl, t6, by omega, by omega, by omega, fun r7 x7 y7 c7 r70 r71 t7 => ?_⟩
        obtain ⟨v, hv, v0, v1⟩ := pick6 r7 r70 r71
        simp only [dSeq, dNext, dIf, dRet, dRetN, dSet, dDrop, dC, dVar, dMv, dOp, dTest, dTru, dNot, dAnd, dOr, dAndV, dOrV, dNotV, dIfE, dCons, dNil, dLst, dTup, dFrz, dNeg, dChain, dIx, dIxS, dCa, dIsi, dIsi2, dAsg, dgName, dgTup, dgCons, dgNil, dwSeq, dwTup, dwRng1, dwRng2, dwEnum, dwZip, zipD_map, eqv_strS, plnL_T, frzL_T, dListOf, dIsN, dNotN, tN, dCat, dSl, dNoPart, dPart, dFor, dSetIx, dApp, dCall, dCallK, dPar, dOrT, dAndT, dYes, bodyE, keepPs, keepP, addK, subK, mulK, fdivK, modK, powK, ltK, leK, gtK, geK, eqK, neK, isK, isNotK, isNone, ixK, lenK, maxK, minK, absK, intK, strK, isIn_int, isIn_bool, isIn_list, isIn_tuple, isIn_str, truD, DL.T.frz, DL.T.pln, frzL, plnL, List.map_cons, List.map_nil, List.length_cons, List.length_nil, List.replicate_succ, List.replicate_zero, List.cons_append, List.nil_append, List.append_nil, List.getElem?_cons_zero, List.getElem?_cons_succ, List.getElem?_nil, List.set_cons_zero, List.set_cons_succ, List.set_nil, atI_0, atI_1, atI_2, atI_3, atI_4, ixN_0, ixN_1, ixN_2, plnL_dats, frzL_dats, allK_map, anyK_map, sumK_map, eqv_int, eqOk_int, eqOk_none, eqOk_bool, eqOk_str, bkOk, putBack, adr, pick, List.getD_cons_zero, List.getD_cons_succ, redat, wipeD, true_and, and_true, if_true, if_false, ite_true, ite_false, Bool.true_and, Bool.and_true, Bool.false_and, Bool.not_true, Bool.not_false, Option.getD_some, till, hv]
        exact ⟨sz (by simp; omega), fin v x7 y7 c7 v0 v1 (t7.mono (by omega)) _ _ _⟩
    | some bs =>
      obtain ⟨bl, bw⟩ := hb bs rfl
      have hbk : bs[j]? = some bs[j] := List.getElem?_eq_getElem (by omega)
      have hmem := List.mem_of_getElem? hbk
      generalize bs[j] = b at hbk hmem
      cases b with
      | none =>
        simp (maxSteps := 2000000) only [dSeq, dNext, dIf, dRet, dRetN, dSet, dDrop, dC, dVar, dMv, dOp, dTest, dTru, dNot, dAnd, dOr, dAndV, dOrV, dNotV, dIfE, dCons, dNil, dLst, dTup, dFrz, dNeg, dChain, dIx, dIxS, dCa, dIsi, dIsi2, dAsg, dgName, dgTup, dgCons, dgNil, dwSeq, dwTup, dwRng1, dwRng2, dwEnum, dwZip, zipD_map, eqv_strS, plnL_T, frzL_T, dListOf, dIsN, dNotN, tN, dCat, dSl, dNoPart, dPart, dFor, dSetIx, dApp, dCall, dCallK, dPar, dOrT, dAndT, dYes, bodyE, keepPs, keepP, addK, subK, mulK, fdivK, modK, powK, ltK, leK, gtK, geK, eqK, neK, isK, isNotK, isNone, ixK, lenK, maxK, minK, absK, intK, strK, isIn_int, isIn_bool, isIn_list, isIn_tuple, isIn_str, truD, DL.T.frz, DL.T.pln, frzL, plnL, List.map_cons, List.map_nil, List.length_cons, List.length_nil, List.replicate_succ, List.replicate_zero, List.cons_append, List.nil_append, List.append_nil, List.getElem?_cons_zero, List.getElem?_cons_succ, List.getElem?_nil, List.set_cons_zero, List.set_cons_succ, List.set_nil, atI_0, atI_1, atI_2, atI_3, atI_4, ixN_0, ixN_1, ixN_2, plnL_dats, frzL_dats, allK_map, anyK_map, sumK_map, eqv_int, eqOk_int, eqOk_none, eqOk_bool, eqOk_str, bkOk, putBack, adr, pick, List.getD_cons_zero, List.getD_cons_succ, redat, wipeD, true_and, and_true, if_true, if_false, ite_true, ite_false, Bool.true_and, Bool.and_true, Bool.false_and, Bool.not_true, Bool.not_false, Option.getD_some, till, encD, encB, encO, isNone, sp_law_pull, atI_nat', List.getElem?_map, hbk, Option.map_some, Bool.false_eq_true]
        refine ⟨by decide, ?_⟩
        refine ⟨by decide, a, n + 1 + 10 * j, x, y, c, 2, rfl, ht, by omega, by omega, by omega, fun r2 x2 y2 c2 r20 r21 t2 => ?_⟩
        simp only [dSeq, dNext, dIf, dRet, dRetN, dSet, dDrop, dC, dVar, dMv, dOp, dTest, dTru, dNot, dAnd, dOr, dAndV, dOrV, dNotV, dIfE, dCons, dNil, dLst, dTup, dFrz, dNeg, dChain, dIx, dIxS, dCa, dIsi, dIsi2, dAsg, dgName, dgTup, dgCons, dgNil, dwSeq, dwTup, dwRng1, dwRng2, dwEnum, dwZip, zipD_map, eqv_strS, plnL_T, frzL_T, dListOf, dIsN, dNotN, tN, dCat, dSl, dNoPart, dPart, dFor, dSetIx, dApp, dCall, dCallK, dPar, dOrT, dAndT, dYes, bodyE, keepPs, keepP, addK, subK, mulK, fdivK, modK, powK, ltK, leK, gtK, geK, eqK, neK, isK, isNotK, isNone, ixK, lenK, maxK, minK, absK, intK, strK, isIn_int, isIn_bool, isIn_list, isIn_tuple, isIn_str, truD, DL.T.frz, DL.T.pln, frzL, plnL, List.map_cons, List.map_nil, List.length_cons, List.length_nil, List.replicate_succ, List.replicate_zero, List.cons_append, List.nil_append, List.append_nil, List.getElem?_cons_zero, List.getElem?_cons_succ, List.getElem?_nil, List.set_cons_zero, List.set_cons_succ, List.set_nil, atI_0, atI_1, atI_2, atI_3, atI_4, ixN_0, ixN_1, ixN_2, plnL_dats, frzL_dats, allK_map, anyK_map, sumK_map, eqv_int, eqOk_int, eqOk_none, eqOk_bool, eqOk_str, bkOk, putBack, adr, pick, List.getD_cons_zero, List.getD_cons_succ, redat, wipeD, true_and, and_true, if_true, if_false, ite_true, ite_false, Bool.true_and, Bool.and_true, Bool.false_and, Bool.not_true, Bool.not_false, Option.getD_some, till]
        refine ⟨a, n + 1 + 10 * j + 1, x2, y2, c2, 3, rfl, t2, by omega, by omega, by omega, fun r3 x3 y3 c3 r30 r31 t3 => ?_⟩
        simp only [dSeq, dNext, dIf, dRet, dRetN, dSet, dDrop, dC, dVar, dMv, dOp, dTest, dTru, dNot, dAnd, dOr, dAndV, dOrV, dNotV, dIfE, dCons, dNil, dLst, dTup, dFrz, dNeg, dChain, dIx, dIxS, dCa, dIsi, dIsi2, dAsg, dgName, dgTup, dgCons, dgNil, dwSeq, dwTup, dwRng1, dwRng2, dwEnum, dwZip, zipD_map, eqv_strS, plnL_T, frzL_T, dListOf, dIsN, dNotN, tN, dCat, dSl, dNoPart, dPart, dFor, dSetIx, dApp, dCall, dCallK, dPar, dOrT, dAndT, dYes, bodyE, keepPs, keepP, addK, subK, mulK, fdivK, modK, powK, ltK, leK, gtK, geK, eqK, neK, isK, isNotK, isNone, ixK, lenK, maxK, minK, absK, intK, strK, isIn_int, isIn_bool, isIn_list, isIn_tuple, isIn_str, truD, DL.T.frz, DL.T.pln, frzL, plnL, List.map_cons, List.map_nil, List.length_cons, List.length_nil, List.replicate_succ, List.replicate_zero, List.cons_append, List.nil_append, List.append_nil, List.getElem?_cons_zero, List.getElem?_cons_succ, List.getElem?_nil, List.set_cons_zero, List.set_cons_succ, List.set_nil, atI_0, atI_1, atI_2, atI_3, atI_4, ixN_0, ixN_1, ixN_2, plnL_dats, frzL_dats, allK_map, anyK_map, sumK_map, eqv_int, eqOk_int, eqOk_none, eqOk_bool, eqOk_str, bkOk, putBack, adr, pick, List.getD_cons_zero, List.getD_cons_succ, redat, wipeD, true_and, and_true, if_true, if_false, ite_true, ite_false, Bool.true_and, Bool.and_true, Bool.false_and, Bool.not_true, Bool.not_false, Option.getD_some, till]
        refine ⟨a, n + 1 + 10 * j + 1 + 1, x3, y3, c3, 200, rfl, t3, by omega, by omega, by omega, fun r4 x4 y4 c4 r40 r41 t4 => ?_⟩
        simp only [dSeq, dNext, dIf, dRet, dRetN, dSet, dDrop, dC, dVar, dMv, dOp, dTest, dTru, dNot, dAnd, dOr, dAndV, dOrV, dNotV, dIfE, dCons, dNil, dLst, dTup, dFrz, dNeg, dChain, dIx, dIxS, dCa, dIsi, dIsi2, dAsg, dgName, dgTup, dgCons, dgNil, dwSeq, dwTup, dwRng1, dwRng2, dwEnum, dwZip, zipD_map, eqv_strS, plnL_T, frzL_T, dListOf, dIsN, dNotN, tN, dCat, dSl, dNoPart, dPart, dFor, dSetIx, dApp, dCall, dCallK, dPar, dOrT, dAndT, dYes, bodyE, keepPs, keepP, addK, subK, mulK, fdivK, modK, powK, ltK, leK, gtK, geK, eqK, neK, isK, isNotK, isNone, ixK, lenK, maxK, minK, absK, intK, strK, isIn_int, isIn_bool, isIn_list, isIn_tuple, isIn_str, truD, DL.T.frz, DL.T.pln, frzL, plnL, List.map_cons, List.map_nil, List.length_cons, List.length_nil, List.replicate_succ, List.replicate_zero, List.cons_append, List.nil_append, List.append_nil, List.getElem?_cons_zero, List.getElem?_cons_succ, List.getElem?_nil, List.set_cons_zero, List.set_cons_succ, List.set_nil, atI_0, atI_1, atI_2, atI_3, atI_4, ixN_0, ixN_1, ixN_2, plnL_dats, frzL_dats, allK_map, anyK_map, sumK_map, eqv_int, eqOk_int, eqOk_none, eqOk_bool, eqOk_str, bkOk, putBack, adr, pick, List.getD_cons_zero, List.getD_cons_succ, redat, wipeD, true_and, and_true, if_true, if_false, ite_true, ite_false, Bool.true_and, Bool.and_true, Bool.false_and, Bool.not_true, Bool.not_false, Option.getD_some, till]
        refine ⟨sz (by decide), fun p1 => ⟨by decide, a, n + 1 + 10 * j + 1 + 1 + 1, x4, y4, c4, 2000001, rfl, t4, by omega, by omega, by omega, fun r5 x5 y5 c5 r50 r51 t5 => ?_⟩⟩
        simp only [dSeq, dNext, dIf, dRet, dRetN, dSet, dDrop, dC, dVar, dMv, dOp, dTest, dTru, dNot, dAnd, dOr, dAndV, dOrV, dNotV, dIfE, dCons, dNil, dLst, dTup, dFrz, dNeg, dChain, dIx, dIxS, dCa, dIsi, dIsi2, dAsg, dgName, dgTup, dgCons, dgNil, dwSeq, dwTup, dwRng1, dwRng2, dwEnum, dwZip, zipD_map, eqv_strS, plnL_T, frzL_T, dListOf, dIsN, dNotN, tN, dCat, dSl, dNoPart, dPart, dFor, dSetIx, dApp, dCall, dCallK, dPar, dOrT, dAndT, dYes, bodyE, keepPs, keepP, addK, subK, mulK, fdivK, modK, powK, ltK, leK, gtK, geK, eqK, neK, isK, isNotK, isNone, ixK, lenK, maxK, minK, absK, intK, strK, isIn_int, isIn_bool, isIn_list, isIn_tuple, isIn_str, truD, DL.T.frz, DL.T.pln, frzL, plnL, List.map_cons, List.map_nil, List.length_cons, List.length_nil, List.replicate_succ, List.replicate_zero, List.cons_append, List.nil_append, List.append_nil, List.getElem?_cons_zero, List.getElem?_cons_succ, List.getElem?_nil, List.set_cons_zero, List.set_cons_succ, List.set_nil, atI_0, atI_1, atI_2, atI_3, atI_4, ixN_0, ixN_1, ixN_2, plnL_dats, frzL_dats, allK_map, anyK_map, sumK_map, eqv_int, eqOk_int, eqOk_none, eqOk_bool, eqOk_str, bkOk, putBack, adr, pick, List.getD_cons_zero, List.getD_cons_succ, redat, wipeD, true_and, and_true, if_true, if_false, ite_true, ite_false, Bool.true_and, Bool.and_true, Bool.false_and, Bool.not_true, Bool.not_false, Option.getD_some, till]
        refine ⟨sz (by decide), fun p2 => ⟨a, n + 1 + 10 * j + 1 + 1 + 1 + 1, x5, y5, c5, 2, rfl, t5, by omega, by omega, by omega, fun r6 x6 y6 c6 r60 r61 t6 => ?_⟩⟩
        obtain ⟨z, hz, hz2⟩ : ∃ z : Int, atI [PyData.int 1000000, .int (-1000000)] r6 = some (.int z) ∧ (z = 1000000 ∨ z = -1000000) := by
          have : r6 = 0 ∨ r6 = 1 := by omega
          rcases this with rfl | rfl
          · exact ⟨_, atI_0 _ _, .inl rfl⟩
          · exact ⟨_, atI_1 _ _ _, .inr rfl⟩
        simp only [dSeq, dNext, dIf, dRet, dRetN, dSet, dDrop, dC, dVar, dMv, dOp, dTest, dTru, dNot, dAnd, dOr, dAndV, dOrV, dNotV, dIfE, dCons, dNil, dLst, dTup, dFrz, dNeg, dChain, dIx, dIxS, dCa, dIsi, dIsi2, dAsg, dgName, dgTup, dgCons, dgNil, dwSeq, dwTup, dwRng1, dwRng2, dwEnum, dwZip, zipD_map, eqv_strS, plnL_T, frzL_T, dListOf, dIsN, dNotN, tN, dCat, dSl, dNoPart, dPart, dFor, dSetIx, dApp, dCall, dCallK, dPar, dOrT, dAndT, dYes, bodyE, keepPs, keepP, addK, subK, mulK, fdivK, modK, powK, ltK, leK, gtK, geK, eqK, neK, isK, isNotK, isNone, ixK, lenK, maxK, minK, absK, intK, strK, isIn_int, isIn_bool, isIn_list, isIn_tuple, isIn_str, truD, DL.T.frz, DL.T.pln, frzL, plnL, List.map_cons, List.map_nil, List.length_cons, List.length_nil, List.replicate_succ, List.replicate_zero, List.cons_append, List.nil_append, List.append_nil, List.getElem?_cons_zero, List.getElem?_cons_succ, List.getElem?_nil, List.set_cons_zero, List.set_cons_succ, List.set_nil, atI_0, atI_1, atI_2, atI_3, atI_4, ixN_0, ixN_1, ixN_2, plnL_dats, frzL_dats, allK_map, anyK_map, sumK_map, eqv_int, eqOk_int, eqOk_none, eqOk_bool, eqOk_str, bkOk, putBack, adr, pick, List.getD_cons_zero, List.getD_cons_succ, redat, wipeD, true_and, and_true, if_true, if_false, ite_true, ite_false, Bool.true_and, Bool.and_true, Bool.false_and, Bool.not_true, Bool.not_false, Option.getD_some, till, hz]
        refine ⟨sz (by decide), fun p3 => ⟨sz (by decide), fun p4 => ⟨by decide, ?_⟩⟩⟩
        have pick6 : ∀ r : Int, 0 ≤ r → r < 6 → ∃ v : Int, atI [PyData.int (0), .int (0 - r2), .int (0 + 1 - r3), .int (0 - r4), .int (r5 - 1000000), .int z] r = some (.int v) ∧ -1000000 ≤ v ∧ v ≤ 1000000 := by
          intro r a0 a1
          have : r = 0 ∨ r = 1 ∨ r = 2 ∨ r = 3 ∨ r = 4 ∨ r = 5 := by omega
          rcases this with rfl | rfl | rfl | rfl | rfl | rfl
          · exact ⟨_, atI_0 _ _, by omega, by omega⟩
          · exact ⟨_, atI_1 _ _ _, by omega, by omega⟩
          · exact ⟨_, atI_2 _ _ _ _, by omega, by omega⟩
          · exact ⟨_, atI_3 _ _ _ _ _, by omega, by omega⟩
          · exact ⟨_, atI_4 _ _ _ _ _ _, by omega, by omega⟩
          · exact ⟨z, (atI_nat' (i := 5)).trans rfl, by omega, by omega⟩
        have fin : ∀ v x' y' c', -1000000 ≤ v → v ≤ 1000000 → TillB (n + 1 + 10 * (j : Int) + 10) x' y' c' → ∀ s5 s6 s7 : Option T, N [some (till a x' y' c'), some (.dat (.list (bs.map encO))), some (.dat (.int many)), some (.node .lst p ((ps.map fun c => T.dat (.int c)) ++ [T.dat (.int v)])), some (.dat (.int way)), s5, s6, s7] := fun v x' y' c' v0 v1 t' s5 s6 s7 => hN _ ⟨ps ++ [v], x', y', c', s5, s6, s7, by simp [hj], fun q hq => by
          rcases List.mem_append.mp hq with hq | hq
          · exact hps q hq
          · simp at hq
            omega, t'.mono (by omega), by simp [encD, encB]⟩
        by_cases hway : way < 5
        · obtain ⟨v, hv, v0, v1⟩ := pick6 way w0 (by omega)
          rw [if_pos (by simp only [decide_eq_true_eq]; exact hway)]
          simp only [hv]
          exact ⟨sz (by simp; omega), fin v x6 y6 c6 v0 v1 (t6.mono (by omega)) _ _ _⟩
        · rw [if_neg (by simp only [decide_eq_true_eq]; exact hway)]
          refine ⟨a, n + 1 + 10 * j + 1 + 1 + 1 + 1 + 1, x6, y6, c6, 6, rfl, t6, by omega, by omega, by omega, fun r7 x7 y7 c7 r70 r71 t7 => ?_⟩
          obtain ⟨v, hv, v0, v1⟩ := pick6 r7 r70 r71
          simp only [dSeq, dNext, dIf, dRet, dRetN, dSet, dDrop, dC, dVar, dMv, dOp, dTest, dTru, dNot, dAnd, dOr, dAndV, dOrV, dNotV, dIfE, dCons, dNil, dLst, dTup, dFrz, dNeg, dChain, dIx, dIxS, dCa, dIsi, dIsi2, dAsg, dgName, dgTup, dgCons, dgNil, dwSeq, dwTup, dwRng1, dwRng2, dwEnum, dwZip, zipD_map, eqv_strS, plnL_T, frzL_T, dListOf, dIsN, dNotN, tN, dCat, dSl, dNoPart, dPart, dFor, dSetIx, dApp, dCall, dCallK, dPar, dOrT, dAndT, dYes, bodyE, keepPs, keepP, addK, subK, mulK, fdivK, modK, powK, ltK, leK, gtK, geK, eqK, neK, isK, isNotK, isNone, ixK, lenK, maxK, minK, absK, intK, strK, isIn_int, isIn_bool, isIn_list, isIn_tuple, isIn_str, truD, DL.T.frz, DL.T.pln, frzL, plnL, List.map_cons, List.map_nil, List.length_cons, List.length_nil, List.replicate_succ, List.replicate_zero, List.cons_append, List.nil_append, List.append_nil, List.getElem?_cons_zero, List.getElem?_cons_succ, List.getElem?_nil, List.set_cons_zero, List.set_cons_succ, List.set_nil, atI_0, atI_1, atI_2, atI_3, atI_4, ixN_0, ixN_1, ixN_2, plnL_dats, frzL_dats, allK_map, anyK_map, sumK_map, eqv_int, eqOk_int, eqOk_none, eqOk_bool, eqOk_str, bkOk, putBack, adr, pick, List.getD_cons_zero, List.getD_cons_succ, redat, wipeD, true_and, and_true, if_true, if_false, ite_true, ite_false, Bool.true_and, Bool.and_true, Bool.false_and, Bool.not_true, Bool.not_false, Option.getD_some, till, hv]
          exact ⟨sz (by simp; omega), fin v x7 y7 c7 v0 v1 (t7.mono (by omega)) _ _ _⟩
      | some w =>
        have hw := bw w hmem
        simp (maxSteps := 2000000) only [dSeq, dNext, dIf, dRet, dRetN, dSet, dDrop, dC, dVar, dMv, dOp, dTest, dTru, dNot, dAnd, dOr, dAndV, dOrV, dNotV, dIfE, dCons, dNil, dLst, dTup, dFrz, dNeg, dChain, dIx, dIxS, dCa, dIsi, dIsi2, dAsg, dgName, dgTup, dgCons, dgNil, dwSeq, dwTup, dwRng1, dwRng2, dwEnum, dwZip, zipD_map, eqv_strS, plnL_T, frzL_T, dListOf, dIsN, dNotN, tN, dCat, dSl, dNoPart, dPart, dFor, dSetIx, dApp, dCall, dCallK, dPar, dOrT, dAndT, dYes, bodyE, keepPs, keepP, addK, subK, mulK, fdivK, modK, powK, ltK, leK, gtK, geK, eqK, neK, isK, isNotK, isNone, ixK, lenK, maxK, minK, absK, intK, strK, isIn_int, isIn_bool, isIn_list, isIn_tuple, isIn_str, truD, DL.T.frz, DL.T.pln, frzL, plnL, List.map_cons, List.map_nil, List.length_cons, List.length_nil, List.replicate_succ, List.replicate_zero, List.cons_append, List.nil_append, List.append_nil, List.getElem?_cons_zero, List.getElem?_cons_succ, List.getElem?_nil, List.set_cons_zero, List.set_cons_succ, List.set_nil, atI_0, atI_1, atI_2, atI_3, atI_4, ixN_0, ixN_1, ixN_2, plnL_dats, frzL_dats, allK_map, anyK_map, sumK_map, eqv_int, eqOk_int, eqOk_none, eqOk_bool, eqOk_str, bkOk, putBack, adr, pick, List.getD_cons_zero, List.getD_cons_succ, redat, wipeD, true_and, and_true, if_true, if_false, ite_true, ite_false, Bool.true_and, Bool.and_true, Bool.false_and, Bool.not_true, Bool.not_false, Option.getD_some, till, encD, encB, encO, isNone, sp_law_pull, atI_nat', List.getElem?_map, hbk, Option.map_some, Bool.false_eq_true]
        refine ⟨by decide, by decide, ?_⟩
        refine ⟨by decide, a, n + 1 + 10 * j, x, y, c, 2, rfl, ht, by omega, by omega, by omega, fun r2 x2 y2 c2 r20 r21 t2 => ?_⟩
        simp only [dSeq, dNext, dIf, dRet, dRetN, dSet, dDrop, dC, dVar, dMv, dOp, dTest, dTru, dNot, dAnd, dOr, dAndV, dOrV, dNotV, dIfE, dCons, dNil, dLst, dTup, dFrz, dNeg, dChain, dIx, dIxS, dCa, dIsi, dIsi2, dAsg, dgName, dgTup, dgCons, dgNil, dwSeq, dwTup, dwRng1, dwRng2, dwEnum, dwZip, zipD_map, eqv_strS, plnL_T, frzL_T, dListOf, dIsN, dNotN, tN, dCat, dSl, dNoPart, dPart, dFor, dSetIx, dApp, dCall, dCallK, dPar, dOrT, dAndT, dYes, bodyE, keepPs, keepP, addK, subK, mulK, fdivK, modK, powK, ltK, leK, gtK, geK, eqK, neK, isK, isNotK, isNone, ixK, lenK, maxK, minK, absK, intK, strK, isIn_int, isIn_bool, isIn_list, isIn_tuple, isIn_str, truD, DL.T.frz, DL.T.pln, frzL, plnL, List.map_cons, List.map_nil, List.length_cons, List.length_nil, List.replicate_succ, List.replicate_zero, List.cons_append, List.nil_append, List.append_nil, List.getElem?_cons_zero, List.getElem?_cons_succ, List.getElem?_nil, List.set_cons_zero, List.set_cons_succ, List.set_nil, atI_0, atI_1, atI_2, atI_3, atI_4, ixN_0, ixN_1, ixN_2, plnL_dats, frzL_dats, allK_map, anyK_map, sumK_map, eqv_int, eqOk_int, eqOk_none, eqOk_bool, eqOk_str, bkOk, putBack, adr, pick, List.getD_cons_zero, List.getD_cons_succ, redat, wipeD, true_and, and_true, if_true, if_false, ite_true, ite_false, Bool.true_and, Bool.and_true, Bool.false_and, Bool.not_true, Bool.not_false, Option.getD_some, till]
        refine ⟨a, n + 1 + 10 * j + 1, x2, y2, c2, 3, rfl, t2, by omega, by omega, by omega, fun r3 x3 y3 c3 r30 r31 t3 => ?_⟩
        simp only [dSeq, dNext, dIf, dRet, dRetN, dSet, dDrop, dC, dVar, dMv, dOp, dTest, dTru, dNot, dAnd, dOr, dAndV, dOrV, dNotV, dIfE, dCons, dNil, dLst, dTup, dFrz, dNeg, dChain, dIx, dIxS, dCa, dIsi, dIsi2, dAsg, dgName, dgTup, dgCons, dgNil, dwSeq, dwTup, dwRng1, dwRng2, dwEnum, dwZip, zipD_map, eqv_strS, plnL_T, frzL_T, dListOf, dIsN, dNotN, tN, dCat, dSl, dNoPart, dPart, dFor, dSetIx, dApp, dCall, dCallK, dPar, dOrT, dAndT, dYes, bodyE, keepPs, keepP, addK, subK, mulK, fdivK, modK, powK, ltK, leK, gtK, geK, eqK, neK, isK, isNotK, isNone, ixK, lenK, maxK, minK, absK, intK, strK, isIn_int, isIn_bool, isIn_list, isIn_tuple, isIn_str, truD, DL.T.frz, DL.T.pln, frzL, plnL, List.map_cons, List.map_nil, List.length_cons, List.length_nil, List.replicate_succ, List.replicate_zero, List.cons_append, List.nil_append, List.append_nil, List.getElem?_cons_zero, List.getElem?_cons_succ, List.getElem?_nil, List.set_cons_zero, List.set_cons_succ, List.set_nil, atI_0, atI_1, atI_2, atI_3, atI_4, ixN_0, ixN_1, ixN_2, plnL_dats, frzL_dats, allK_map, anyK_map, sumK_map, eqv_int, eqOk_int, eqOk_none, eqOk_bool, eqOk_str, bkOk, putBack, adr, pick, List.getD_cons_zero, List.getD_cons_succ, redat, wipeD, true_and, and_true, if_true, if_false, ite_true, ite_false, Bool.true_and, Bool.and_true, Bool.false_and, Bool.not_true, Bool.not_false, Option.getD_some, till]
        refine ⟨a, n + 1 + 10 * j + 1 + 1, x3, y3, c3, 200, rfl, t3, by omega, by omega, by omega, fun r4 x4 y4 c4 r40 r41 t4 => ?_⟩
        simp only [dSeq, dNext, dIf, dRet, dRetN, dSet, dDrop, dC, dVar, dMv, dOp, dTest, dTru, dNot, dAnd, dOr, dAndV, dOrV, dNotV, dIfE, dCons, dNil, dLst, dTup, dFrz, dNeg, dChain, dIx, dIxS, dCa, dIsi, dIsi2, dAsg, dgName, dgTup, dgCons, dgNil, dwSeq, dwTup, dwRng1, dwRng2, dwEnum, dwZip, zipD_map, eqv_strS, plnL_T, frzL_T, dListOf, dIsN, dNotN, tN, dCat, dSl, dNoPart, dPart, dFor, dSetIx, dApp, dCall, dCallK, dPar, dOrT, dAndT, dYes, bodyE, keepPs, keepP, addK, subK, mulK, fdivK, modK, powK, ltK, leK, gtK, geK, eqK, neK, isK, isNotK, isNone, ixK, lenK, maxK, minK, absK, intK, strK, isIn_int, isIn_bool, isIn_list, isIn_tuple, isIn_str, truD, DL.T.frz, DL.T.pln, frzL, plnL, List.map_cons, List.map_nil, List.length_cons, List.length_nil, List.replicate_succ, List.replicate_zero, List.cons_append, List.nil_append, List.append_nil, List.getElem?_cons_zero, List.getElem?_cons_succ, List.getElem?_nil, List.set_cons_zero, List.set_cons_succ, List.set_nil, atI_0, atI_1, atI_2, atI_3, atI_4, ixN_0, ixN_1, ixN_2, plnL_dats, frzL_dats, allK_map, anyK_map, sumK_map, eqv_int, eqOk_int, eqOk_none, eqOk_bool, eqOk_str, bkOk, putBack, adr, pick, List.getD_cons_zero, List.getD_cons_succ, redat, wipeD, true_and, and_true, if_true, if_false, ite_true, ite_false, Bool.true_and, Bool.and_true, Bool.false_and, Bool.not_true, Bool.not_false, Option.getD_some, till]
        refine ⟨sz (by decide), fun p1 => ⟨by decide, a, n + 1 + 10 * j + 1 + 1 + 1, x4, y4, c4, 2000001, rfl, t4, by omega, by omega, by omega, fun r5 x5 y5 c5 r50 r51 t5 => ?_⟩⟩
        simp only [dSeq, dNext, dIf, dRet, dRetN, dSet, dDrop, dC, dVar, dMv, dOp, dTest, dTru, dNot, dAnd, dOr, dAndV, dOrV, dNotV, dIfE, dCons, dNil, dLst, dTup, dFrz, dNeg, dChain, dIx, dIxS, dCa, dIsi, dIsi2, dAsg, dgName, dgTup, dgCons, dgNil, dwSeq, dwTup, dwRng1, dwRng2, dwEnum, dwZip, zipD_map, eqv_strS, plnL_T, frzL_T, dListOf, dIsN, dNotN, tN, dCat, dSl, dNoPart, dPart, dFor, dSetIx, dApp, dCall, dCallK, dPar, dOrT, dAndT, dYes, bodyE, keepPs, keepP, addK, subK, mulK, fdivK, modK, powK, ltK, leK, gtK, geK, eqK, neK, isK, isNotK, isNone, ixK, lenK, maxK, minK, absK, intK, strK, isIn_int, isIn_bool, isIn_list, isIn_tuple, isIn_str, truD, DL.T.frz, DL.T.pln, frzL, plnL, List.map_cons, List.map_nil, List.length_cons, List.length_nil, List.replicate_succ, List.replicate_zero, List.cons_append, List.nil_append, List.append_nil, List.getElem?_cons_zero, List.getElem?_cons_succ, List.getElem?_nil, List.set_cons_zero, List.set_cons_succ, List.set_nil, atI_0, atI_1, atI_2, atI_3, atI_4, ixN_0, ixN_1, ixN_2, plnL_dats, frzL_dats, allK_map, anyK_map, sumK_map, eqv_int, eqOk_int, eqOk_none, eqOk_bool, eqOk_str, bkOk, putBack, adr, pick, List.getD_cons_zero, List.getD_cons_succ, redat, wipeD, true_and, and_true, if_true, if_false, ite_true, ite_false, Bool.true_and, Bool.and_true, Bool.false_and, Bool.not_true, Bool.not_false, Option.getD_some, till]
        refine ⟨sz (by decide), fun p2 => ⟨a, n + 1 + 10 * j + 1 + 1 + 1 + 1, x5, y5, c5, 2, rfl, t5, by omega, by omega, by omega, fun r6 x6 y6 c6 r60 r61 t6 => ?_⟩⟩
        obtain ⟨z, hz, hz2⟩ : ∃ z : Int, atI [PyData.int 1000000, .int (-1000000)] r6 = some (.int z) ∧ (z = 1000000 ∨ z = -1000000) := by
          have : r6 = 0 ∨ r6 = 1 := by omega
          rcases this with rfl | rfl
          · exact ⟨_, atI_0 _ _, .inl rfl⟩
          · exact ⟨_, atI_1 _ _ _, .inr rfl⟩
        simp only [dSeq, dNext, dIf, dRet, dRetN, dSet, dDrop, dC, dVar, dMv, dOp, dTest, dTru, dNot, dAnd, dOr, dAndV, dOrV, dNotV, dIfE, dCons, dNil, dLst, dTup, dFrz, dNeg, dChain, dIx, dIxS, dCa, dIsi, dIsi2, dAsg, dgName, dgTup, dgCons, dgNil, dwSeq, dwTup, dwRng1, dwRng2, dwEnum, dwZip, zipD_map, eqv_strS, plnL_T, frzL_T, dListOf, dIsN, dNotN, tN, dCat, dSl, dNoPart, dPart, dFor, dSetIx, dApp, dCall, dCallK, dPar, dOrT, dAndT, dYes, bodyE, keepPs, keepP, addK, subK, mulK, fdivK, modK, powK, ltK, leK, gtK, geK, eqK, neK, isK, isNotK, isNone, ixK, lenK, maxK, minK, absK, intK, strK, isIn_int, isIn_bool, isIn_list, isIn_tuple, isIn_str, truD, DL.T.frz, DL.T.pln, frzL, plnL, List.map_cons, List.map_nil, List.length_cons, List.length_nil, List.replicate_succ, List.replicate_zero, List.cons_append, List.nil_append, List.append_nil, List.getElem?_cons_zero, List.getElem?_cons_succ, List.getElem?_nil, List.set_cons_zero, List.set_cons_succ, List.set_nil, atI_0, atI_1, atI_2, atI_3, atI_4, ixN_0, ixN_1, ixN_2, plnL_dats, frzL_dats, allK_map, anyK_map, sumK_map, eqv_int, eqOk_int, eqOk_none, eqOk_bool, eqOk_str, bkOk, putBack, adr, pick, List.getD_cons_zero, List.getD_cons_succ, redat, wipeD, true_and, and_true, if_true, if_false, ite_true, ite_false, Bool.true_and, Bool.and_true, Bool.false_and, Bool.not_true, Bool.not_false, Option.getD_some, till, hz]
        refine ⟨sz (by decide), fun p3 => ⟨sz (by decide), fun p4 => ⟨by decide, ?_⟩⟩⟩
        have pick6 : ∀ r : Int, 0 ≤ r → r < 6 → ∃ v : Int, atI [PyData.int (w), .int (w - r2), .int (w + 1 - r3), .int (w - r4), .int (r5 - 1000000), .int z] r = some (.int v) ∧ -1000000 ≤ v ∧ v ≤ 1000000 := by
          intro r a0 a1
          have : r = 0 ∨ r = 1 ∨ r = 2 ∨ r = 3 ∨ r = 4 ∨ r = 5 := by omega
          rcases this with rfl | rfl | rfl | rfl | rfl | rfl
          · exact ⟨_, atI_0 _ _, by omega, by omega⟩
          · exact ⟨_, atI_1 _ _ _, by omega, by omega⟩
          · exact ⟨_, atI_2 _ _ _ _, by omega, by omega⟩
          · exact ⟨_, atI_3 _ _ _ _ _, by omega, by omega⟩
          · exact ⟨_, atI_4 _ _ _ _ _ _, by omega, by omega⟩
          · exact ⟨z, (atI_nat' (i := 5)).trans rfl, by omega, by omega⟩
        have fin : ∀ v x' y' c', -1000000 ≤ v → v ≤ 1000000 → TillB (n + 1 + 10 * (j : Int) + 10) x' y' c' → ∀ s5 s6 s7 : Option T, N [some (till a x' y' c'), some (.dat (.list (bs.map encO))), some (.dat (.int many)), some (.node .lst p ((ps.map fun c => T.dat (.int c)) ++ [T.dat (.int v)])), some (.dat (.int way)), s5, s6, s7] := fun v x' y' c' v0 v1 t' s5 s6 s7 => hN _ ⟨ps ++ [v], x', y', c', s5, s6, s7, by simp [hj], fun q hq => by
          rcases List.mem_append.mp hq with hq | hq
          · exact hps q hq
          · simp at hq
            omega, t'.mono (by omega), by simp [encD, encB]⟩
        by_cases hway : way < 5
        · obtain ⟨v, hv, v0, v1⟩ := pick6 way w0 (by omega)
          rw [if_pos (by simp only [decide_eq_true_eq]; exact hway)]
          simp only [hv]
          exact ⟨sz (by simp; omega), fin v x6 y6 c6 v0 v1 (t6.mono (by omega)) _ _ _⟩
        · rw [if_neg (by simp only [decide_eq_true_eq]; exact hway)]
          refine ⟨a, n + 1 + 10 * j + 1 + 1 + 1 + 1 + 1, x6, y6, c6, 6, rfl, t6, by omega, by omega, by omega, fun r7 x7 y7 c7 r70 r71 t7 => ?_⟩
          obtain ⟨v, hv, v0, v1⟩ := pick6 r7 r70 r71
          simp only [dSeq, dNext, dIf, dRet, dRetN, dSet, dDrop, dC, dVar, dMv, dOp, dTest, dTru, dNot, dAnd, dOr, dAndV, dOrV, dNotV, dIfE, dCons, dNil, dLst, dTup, dFrz, dNeg, dChain, dIx, dIxS, dCa, dIsi, dIsi2, dAsg, dgName, dgTup, dgCons, dgNil, dwSeq, dwTup, dwRng1, dwRng2, dwEnum, dwZip, zipD_map, eqv_strS, plnL_T, frzL_T, dListOf, dIsN, dNotN, tN, dCat, dSl, dNoPart, dPart, dFor, dSetIx, dApp, dCall, dCallK, dPar, dOrT, dAndT, dYes, bodyE, keepPs, keepP, addK, subK, mulK, fdivK, modK, powK, ltK, leK, gtK, geK, eqK, neK, isK, isNotK, isNone, ixK, lenK, maxK, minK, absK, intK, strK, isIn_int, isIn_bool, isIn_list, isIn_tuple, isIn_str, truD, DL.T.frz, DL.T.pln, frzL, plnL, List.map_cons, List.map_nil, List.length_cons, List.length_nil, List.replicate_succ, List.replicate_zero, List.cons_append, List.nil_append, List.append_nil, List.getElem?_cons_zero, List.getElem?_cons_succ, List.getElem?_nil, List.set_cons_zero, List.set_cons_succ, List.set_nil, atI_0, atI_1, atI_2, atI_3, atI_4, ixN_0, ixN_1, ixN_2, plnL_dats, frzL_dats, allK_map, anyK_map, sumK_map, eqv_int, eqOk_int, eqOk_none, eqOk_bool, eqOk_str, bkOk, putBack, adr, pick, List.getD_cons_zero, List.getD_cons_succ, redat, wipeD, true_and, and_true, if_true, if_false, ite_true, ite_false, Bool.true_and, Bool.and_true, Bool.false_and, Bool.not_true, Bool.not_false, Option.getD_some, till, hv]
          exact ⟨sz (by simp; omega), fin v x7 y7 c7 v0 v1 (t7.mono (by omega)) _ _ _⟩
  · rintro S ⟨ps, x, y, c, s5, s6, s7, hj, hps, ht, rfl⟩
    rw [rngD_len, Nat.zero_add] at hj ht
    simp only [dSeq, dNext, dIf, dRet, dRetN, dSet, dDrop, dC, dVar, dMv, dOp, dTest, dTru, dNot, dAnd, dOr, dAndV, dOrV, dNotV, dIfE, dCons, dNil, dLst, dTup, dFrz, dNeg, dChain, dIx, dIxS, dCa, dIsi, dIsi2, dAsg, dgName, dgTup, dgCons, dgNil, dwSeq, dwTup, dwRng1, dwRng2, dwEnum, dwZip, zipD_map, eqv_strS, plnL_T, frzL_T, dListOf, dIsN, dNotN, tN, dCat, dSl, dNoPart, dPart, dFor, dSetIx, dApp, dCall, dCallK, dPar, dOrT, dAndT, dYes, bodyE, keepPs, keepP, addK, subK, mulK, fdivK, modK, powK, ltK, leK, gtK, geK, eqK, neK, isK, isNotK, isNone, ixK, lenK, maxK, minK, absK, intK, strK, isIn_int, isIn_bool, isIn_list, isIn_tuple, isIn_str, truD, DL.T.frz, DL.T.pln, frzL, plnL, List.map_cons, List.map_nil, List.length_cons, List.length_nil, List.replicate_succ, List.replicate_zero, List.cons_append, List.nil_append, List.append_nil, List.getElem?_cons_zero, List.getElem?_cons_succ, List.getElem?_nil, List.set_cons_zero, List.set_cons_succ, List.set_nil, atI_0, atI_1, atI_2, atI_3, atI_4, ixN_0, ixN_1, ixN_2, plnL_dats, frzL_dats, allK_map, anyK_map, sumK_map, eqv_int, eqOk_int, eqOk_none, eqOk_bool, eqOk_str, bkOk, putBack, adr, pick, List.getD_cons_zero, List.getD_cons_succ, redat, wipeD, true_and, and_true, if_true, if_false, ite_true, ite_false, Bool.true_and, Bool.and_true, Bool.false_and, Bool.not_true, Bool.not_false, Option.getD_some, till]
    exact h ps x y c p hj hps (ht.mono (by omega))
def lensOk : Nat → PyData → Bool
  | _, .none => true
  | _, .bool _ => true
  | _, .int _ => true
  | n + 1, .list xs => decide (xs.length ≤ 100000) && xs.all (lensOk n)
  | n + 1, .tuple xs => decide (xs.length ≤ 100000) && xs.all (lensOk n)
  | _, _ => false
theorem lens_shp : ∀ (n : Nat) (d : PyData), lensOk n d = true → shp n d = true
  | n, .none, _ => by cases n <;> rfl
  | n, .bool _, _ => by cases n <;> rfl
  | n, .int _, _ => by cases n <;> rfl
  | 0, .list _, h => by simp [lensOk] at h
  | 0, .tuple _, h => by simp [lensOk] at h
  | n + 1, .list xs, h => by
    simp only [lensOk, Bool.and_eq_true, List.all_eq_true] at h
    simp only [shp]
    exact shpAll_mem fun x hx => lens_shp n x (h.2 x hx)
  | n + 1, .tuple xs, h => by
    simp only [lensOk, Bool.and_eq_true, List.all_eq_true] at h
    simp only [shp]
    exact shpAll_mem fun x hx => lens_shp n x (h.2 x hx)
  | n, .str _, h => by cases n <;> simp [lensOk] at h
  | n, .dict _, h => by cases n <;> simp [lensOk] at h
def sr_law_same (n : Nat) : FSp := fun As Q => ∃ d, As = [.dat d, .dat d] ∧ lensOk n d = true ∧ Q (.dat (.bool true)) [none, none]
theorem ok_law_same_all (tx : Txt K mg A) (n : Nat) : FnOk P w K mg base CX0 (1 + n) A.a_law_same A.d_law_same ["found", "due"] (spD K 2 (sr_law_same n)) := by
  induction n with
  | zero =>
    have IH : FnOk P w K mg base CX0 (0) A.a_law_same A.d_law_same ["found", "due"] (spD K 2 fun _ _ => False) := ⟨fun vs H Q E z => by obtain ⟨_, _, _, _, _, z, _⟩ := z; exact z.elim, fun _ _ _ _ _ _ vs Q E _ _ _ _ z => by obtain ⟨_, _, _, _, _, z, _⟩ := z; exact z.elim⟩
    refine fn_okD (N := ["found", "due", "k"]) (k := 0) (sp := sr_law_same 0) tx.F_law_same sc_law_same ?_
    intro cdv Ar outer s H E hr
    refine Exists.intro _ (And.intro (pssd_cons (psd_if (ptd_val (pd_isi2 (pdv 1) (by rfl) tx.n_isinstance (by rfl) tx.n_list (by decide +kernel) (by rfl) tx.n_tuple (by decide +kernel))) (pssd_cons (psd_if ((pwd_or (ptd_not (ptd_val (pd_isi2 (pdv 0) (by rfl) tx.n_isinstance (by rfl) tx.n_list (by decide +kernel) (by rfl) tx.n_tuple (by decide +kernel)))) (pwd_or1 (ptd_cmp (od_ne hr.units) (pd_isi (pdv 0) (by rfl) tx.n_isinstance (by rfl) tx.n_list (by decide +kernel)) (pd_isi (pdv 1) (by rfl) tx.n_isinstance (by rfl) tx.n_list (by decide +kernel)))))).pt (pssd_one (psd_ret pd_bl)) pssd_nil) (pssd_one (psd_ret (pd_and (pd_cmp (od_eq hr.units) (pd_callB ca_len (by rfl) tx.n_len (by decide +kernel) (pad_cons (pdv 0) pad_nil)) (pd_callB ca_len (by rfl) tx.n_len (by decide +kernel) (pad_cons (pdv 1) pad_nil))) (pd_one (pd_callB (ca_all (by rfl)) (by rfl) tx.n_all (by decide +kernel) (pad_cons (pd_frz (pd_lc (own := [("k", 2)]) rfl sc_law_same.nd (pid_rng1 (by rfl) tx.n_range (pad_cons (pd_callB ca_len (by rfl) tx.n_len (by decide +kernel) (pad_cons (pdv 1) pad_nil)) pad_nil)) (blkOk_by (N := ["found", "due", "k"]) (sc := defScope s_law_same) (by decide +kernel)) (fun _ _ _ _ _ => (pg_name (i := 2) sc_law_same.nd rfl (Or.inl rfl))) (link_name (by decide)) (fun _ _ _ _ _ => ptsd_nil) (fun _ _ _ _ _ => (pd_call (dv := []) (dvs := []) IH (hr.mono (by decide)) (by rfl) tx.F_law_same.g tx.F_law_same.F.kp (b_law_same tx) .nil rfl [] (pad_cons (pd_ix (pdv 0) (pdv 2)) (pad_cons (pd_ix (pdv 1) (pdv 2)) pad_nil)))))) pad_nil))))))) pssd_nil) (pssd_cons (psd_if ((pwd_or (ptd_cmp od_is (pdv 1) pd_non) (pwd_or1 (ptd_cmp od_is (pdv 0) pd_non)))).pt (pssd_one (psd_ret (pd_and (pd_cmp od_is (pdv 1) pd_non) (pd_one (pd_cmp od_is (pdv 0) pd_non))))) pssd_nil) (pssd_cons (psd_if ((pwd_or (ptd_val (pd_isi (pdv 0) (by rfl) tx.n_isinstance (by rfl) tx.n_bool (by decide +kernel))) (pwd_or1 (ptd_val (pd_isi (pdv 1) (by rfl) tx.n_isinstance (by rfl) tx.n_bool (by decide +kernel)))))).pt (pssd_one (psd_ret (pd_and (pd_isi (pdv 0) (by rfl) tx.n_isinstance (by rfl) tx.n_bool (by decide +kernel)) (pd_and (pd_isi (pdv 1) (by rfl) tx.n_isinstance (by rfl) tx.n_bool (by decide +kernel)) (pd_one (pd_cmp (od_eq hr.units) (pdv 0) (pdv 1))))))) pssd_nil) (pssd_one (psd_ret (pd_and (pd_cmp (od_eq hr.units) (pd_isi (pdv 0) (by rfl) tx.n_isinstance (by rfl) tx.n_int (by decide +kernel)) (pd_isi (pdv 1) (by rfl) tx.n_isinstance (by rfl) tx.n_int (by decide +kernel))) (pd_one (pd_cmp (od_eq hr.units) (pdv 0) (pdv 1))))))))) ?_)
    intro As Qd hl h
    obtain ⟨d, rfl, hs, h⟩ := h
    cases d with
    | none => simp [dSeq, dNext, dIf, dRet, dRetN, dSet, dDrop, dC, dVar, dMv, dOp, dTest, dTru, dNot, dAnd, dOr, dAndV, dOrV, dNotV, dIfE, dCons, dNil, dLst, dTup, dFrz, dNeg, dChain, dIx, dIxS, dCa, dIsi, dIsi2, dAsg, dgName, dgTup, dgCons, dgNil, dwSeq, dwTup, dwRng1, dwRng2, dwEnum, dwZip, zipD_map, eqv_strS, plnL_T, frzL_T, dListOf, dIsN, dNotN, tN, dCat, dSl, dNoPart, dPart, dFor, dSetIx, dApp, dCall, dCallK, dPar, dOrT, dAndT, dYes, bodyE, keepPs, keepP, addK, subK, mulK, fdivK, modK, powK, ltK, leK, gtK, geK, eqK, neK, isK, isNotK, isNone, ixK, lenK, maxK, minK, absK, intK, strK, isIn_int, isIn_bool, isIn_list, isIn_tuple, isIn_str, truD, DL.T.frz, DL.T.pln, frzL, plnL, List.map_cons, List.map_nil, List.length_cons, List.length_nil, List.replicate_succ, List.replicate_zero, List.cons_append, List.nil_append, List.append_nil, List.getElem?_cons_zero, List.getElem?_cons_succ, List.getElem?_nil, List.set_cons_zero, List.set_cons_succ, List.set_nil, atI_0, atI_1, atI_2, atI_3, atI_4, ixN_0, ixN_1, ixN_2, plnL_dats, frzL_dats, allK_map, anyK_map, sumK_map, eqv_int, eqOk_int, eqOk_none, eqOk_bool, eqOk_str, bkOk, putBack, adr, pick, List.getD_cons_zero, List.getD_cons_succ, redat, wipeD, true_and, and_true, if_true, if_false, ite_true, ite_false, Bool.true_and, Bool.and_true, Bool.false_and, Bool.not_true, Bool.not_false, Option.getD_some]; exact h
    | bool b => simp [dSeq, dNext, dIf, dRet, dRetN, dSet, dDrop, dC, dVar, dMv, dOp, dTest, dTru, dNot, dAnd, dOr, dAndV, dOrV, dNotV, dIfE, dCons, dNil, dLst, dTup, dFrz, dNeg, dChain, dIx, dIxS, dCa, dIsi, dIsi2, dAsg, dgName, dgTup, dgCons, dgNil, dwSeq, dwTup, dwRng1, dwRng2, dwEnum, dwZip, zipD_map, eqv_strS, plnL_T, frzL_T, dListOf, dIsN, dNotN, tN, dCat, dSl, dNoPart, dPart, dFor, dSetIx, dApp, dCall, dCallK, dPar, dOrT, dAndT, dYes, bodyE, keepPs, keepP, addK, subK, mulK, fdivK, modK, powK, ltK, leK, gtK, geK, eqK, neK, isK, isNotK, isNone, ixK, lenK, maxK, minK, absK, intK, strK, isIn_int, isIn_bool, isIn_list, isIn_tuple, isIn_str, truD, DL.T.frz, DL.T.pln, frzL, plnL, List.map_cons, List.map_nil, List.length_cons, List.length_nil, List.replicate_succ, List.replicate_zero, List.cons_append, List.nil_append, List.append_nil, List.getElem?_cons_zero, List.getElem?_cons_succ, List.getElem?_nil, List.set_cons_zero, List.set_cons_succ, List.set_nil, atI_0, atI_1, atI_2, atI_3, atI_4, ixN_0, ixN_1, ixN_2, plnL_dats, frzL_dats, allK_map, anyK_map, sumK_map, eqv_int, eqOk_int, eqOk_none, eqOk_bool, eqOk_str, bkOk, putBack, adr, pick, List.getD_cons_zero, List.getD_cons_succ, redat, wipeD, true_and, and_true, if_true, if_false, ite_true, ite_false, Bool.true_and, Bool.and_true, Bool.false_and, Bool.not_true, Bool.not_false, Option.getD_some, PyData.eqv]; exact h
    | int i => simp [dSeq, dNext, dIf, dRet, dRetN, dSet, dDrop, dC, dVar, dMv, dOp, dTest, dTru, dNot, dAnd, dOr, dAndV, dOrV, dNotV, dIfE, dCons, dNil, dLst, dTup, dFrz, dNeg, dChain, dIx, dIxS, dCa, dIsi, dIsi2, dAsg, dgName, dgTup, dgCons, dgNil, dwSeq, dwTup, dwRng1, dwRng2, dwEnum, dwZip, zipD_map, eqv_strS, plnL_T, frzL_T, dListOf, dIsN, dNotN, tN, dCat, dSl, dNoPart, dPart, dFor, dSetIx, dApp, dCall, dCallK, dPar, dOrT, dAndT, dYes, bodyE, keepPs, keepP, addK, subK, mulK, fdivK, modK, powK, ltK, leK, gtK, geK, eqK, neK, isK, isNotK, isNone, ixK, lenK, maxK, minK, absK, intK, strK, isIn_int, isIn_bool, isIn_list, isIn_tuple, isIn_str, truD, DL.T.frz, DL.T.pln, frzL, plnL, List.map_cons, List.map_nil, List.length_cons, List.length_nil, List.replicate_succ, List.replicate_zero, List.cons_append, List.nil_append, List.append_nil, List.getElem?_cons_zero, List.getElem?_cons_succ, List.getElem?_nil, List.set_cons_zero, List.set_cons_succ, List.set_nil, atI_0, atI_1, atI_2, atI_3, atI_4, ixN_0, ixN_1, ixN_2, plnL_dats, frzL_dats, allK_map, anyK_map, sumK_map, eqv_int, eqOk_int, eqOk_none, eqOk_bool, eqOk_str, bkOk, putBack, adr, pick, List.getD_cons_zero, List.getD_cons_succ, redat, wipeD, true_and, and_true, if_true, if_false, ite_true, ite_false, Bool.true_and, Bool.and_true, Bool.false_and, Bool.not_true, Bool.not_false, Option.getD_some]; exact h
    | str x => cases 0 <;> simp [lensOk] at hs
    | dict x => cases 0 <;> simp [lensOk] at hs
    | list ds =>
      first
        | (simp [lensOk] at hs; done)
        | (simp only [lensOk, Bool.and_eq_true, decide_eq_true_eq, List.all_eq_true] at hs
           simp only [dSeq, dNext, dIf, dRet, dRetN, dSet, dDrop, dC, dVar, dMv, dOp, dTest, dTru, dNot, dAnd, dOr, dAndV, dOrV, dNotV, dIfE, dCons, dNil, dLst, dTup, dFrz, dNeg, dChain, dIx, dIxS, dCa, dIsi, dIsi2, dAsg, dgName, dgTup, dgCons, dgNil, dwSeq, dwTup, dwRng1, dwRng2, dwEnum, dwZip, zipD_map, eqv_strS, plnL_T, frzL_T, dListOf, dIsN, dNotN, tN, dCat, dSl, dNoPart, dPart, dFor, dSetIx, dApp, dCall, dCallK, dPar, dOrT, dAndT, dYes, bodyE, keepPs, keepP, addK, subK, mulK, fdivK, modK, powK, ltK, leK, gtK, geK, eqK, neK, isK, isNotK, isNone, ixK, lenK, maxK, minK, absK, intK, strK, isIn_int, isIn_bool, isIn_list, isIn_tuple, isIn_str, truD, DL.T.frz, DL.T.pln, frzL, plnL, List.map_cons, List.map_nil, List.length_cons, List.length_nil, List.replicate_succ, List.replicate_zero, List.cons_append, List.nil_append, List.append_nil, List.getElem?_cons_zero, List.getElem?_cons_succ, List.getElem?_nil, List.set_cons_zero, List.set_cons_succ, List.set_nil, atI_0, atI_1, atI_2, atI_3, atI_4, ixN_0, ixN_1, ixN_2, plnL_dats, frzL_dats, allK_map, anyK_map, sumK_map, eqv_int, eqOk_int, eqOk_none, eqOk_bool, eqOk_str, bkOk, putBack, adr, pick, List.getD_cons_zero, List.getD_cons_succ, redat, wipeD, true_and, and_true, if_true, if_false, ite_true, ite_false, Bool.true_and, Bool.and_true, Bool.false_and, Bool.not_true, Bool.not_false, Option.getD_some, dLc]
           simp
           refine ⟨by omega, ?_⟩
           refine lc_map (fun _ => .bool true) (rngD 0 ds.length) [] (fun d hd Q hQ => ?_) (sz (by simp [rngD_len]; omega)) ?_
           · obtain ⟨i, hi, rfl⟩ := mem_rngD hd
             have e : atI ds (0 + (i : Int)) = some ds[i] := by
               rw [Int.zero_add, atI_nat', List.getElem?_eq_getElem hi]
             simp only [dSeq, dNext, dIf, dRet, dRetN, dSet, dDrop, dC, dVar, dMv, dOp, dTest, dTru, dNot, dAnd, dOr, dAndV, dOrV, dNotV, dIfE, dCons, dNil, dLst, dTup, dFrz, dNeg, dChain, dIx, dIxS, dCa, dIsi, dIsi2, dAsg, dgName, dgTup, dgCons, dgNil, dwSeq, dwTup, dwRng1, dwRng2, dwEnum, dwZip, zipD_map, eqv_strS, plnL_T, frzL_T, dListOf, dIsN, dNotN, tN, dCat, dSl, dNoPart, dPart, dFor, dSetIx, dApp, dCall, dCallK, dPar, dOrT, dAndT, dYes, bodyE, keepPs, keepP, addK, subK, mulK, fdivK, modK, powK, ltK, leK, gtK, geK, eqK, neK, isK, isNotK, isNone, ixK, lenK, maxK, minK, absK, intK, strK, isIn_int, isIn_bool, isIn_list, isIn_tuple, isIn_str, truD, DL.T.frz, DL.T.pln, frzL, plnL, List.map_cons, List.map_nil, List.length_cons, List.length_nil, List.replicate_succ, List.replicate_zero, List.cons_append, List.nil_append, List.append_nil, List.getElem?_cons_zero, List.getElem?_cons_succ, List.getElem?_nil, List.set_cons_zero, List.set_cons_succ, List.set_nil, atI_0, atI_1, atI_2, atI_3, atI_4, ixN_0, ixN_1, ixN_2, plnL_dats, frzL_dats, allK_map, anyK_map, sumK_map, eqv_int, eqOk_int, eqOk_none, eqOk_bool, eqOk_str, bkOk, putBack, adr, pick, List.getD_cons_zero, List.getD_cons_succ, redat, wipeD, true_and, and_true, if_true, if_false, ite_true, ite_false, Bool.true_and, Bool.and_true, Bool.false_and, Bool.not_true, Bool.not_false, Option.getD_some, e, sr_law_same]
             exact ⟨by decide, _, rfl, hs.2 _ (List.getElem_mem hi), hQ _ (by simp [dSeq, dNext, dIf, dRet, dRetN, dSet, dDrop, dC, dVar, dMv, dOp, dTest, dTru, dNot, dAnd, dOr, dAndV, dOrV, dNotV, dIfE, dCons, dNil, dLst, dTup, dFrz, dNeg, dChain, dIx, dIxS, dCa, dIsi, dIsi2, dAsg, dgName, dgTup, dgCons, dgNil, dwSeq, dwTup, dwRng1, dwRng2, dwEnum, dwZip, zipD_map, eqv_strS, plnL_T, frzL_T, dListOf, dIsN, dNotN, tN, dCat, dSl, dNoPart, dPart, dFor, dSetIx, dApp, dCall, dCallK, dPar, dOrT, dAndT, dYes, bodyE, keepPs, keepP, addK, subK, mulK, fdivK, modK, powK, ltK, leK, gtK, geK, eqK, neK, isK, isNotK, isNone, ixK, lenK, maxK, minK, absK, intK, strK, isIn_int, isIn_bool, isIn_list, isIn_tuple, isIn_str, truD, DL.T.frz, DL.T.pln, frzL, plnL, List.map_cons, List.map_nil, List.length_cons, List.length_nil, List.replicate_succ, List.replicate_zero, List.cons_append, List.nil_append, List.append_nil, List.getElem?_cons_zero, List.getElem?_cons_succ, List.getElem?_nil, List.set_cons_zero, List.set_cons_succ, List.set_nil, atI_0, atI_1, atI_2, atI_3, atI_4, ixN_0, ixN_1, ixN_2, plnL_dats, frzL_dats, allK_map, anyK_map, sumK_map, eqv_int, eqOk_int, eqOk_none, eqOk_bool, eqOk_str, bkOk, putBack, adr, pick, List.getD_cons_zero, List.getD_cons_succ, redat, wipeD, true_and, and_true, if_true, if_false, ite_true, ite_false, Bool.true_and, Bool.and_true, Bool.false_and, Bool.not_true, Bool.not_false, Option.getD_some])⟩
           · simp only [dSeq, dNext, dIf, dRet, dRetN, dSet, dDrop, dC, dVar, dMv, dOp, dTest, dTru, dNot, dAnd, dOr, dAndV, dOrV, dNotV, dIfE, dCons, dNil, dLst, dTup, dFrz, dNeg, dChain, dIx, dIxS, dCa, dIsi, dIsi2, dAsg, dgName, dgTup, dgCons, dgNil, dwSeq, dwTup, dwRng1, dwRng2, dwEnum, dwZip, zipD_map, eqv_strS, plnL_T, frzL_T, dListOf, dIsN, dNotN, tN, dCat, dSl, dNoPart, dPart, dFor, dSetIx, dApp, dCall, dCallK, dPar, dOrT, dAndT, dYes, bodyE, keepPs, keepP, addK, subK, mulK, fdivK, modK, powK, ltK, leK, gtK, geK, eqK, neK, isK, isNotK, isNone, ixK, lenK, maxK, minK, absK, intK, strK, isIn_int, isIn_bool, isIn_list, isIn_tuple, isIn_str, truD, DL.T.frz, DL.T.pln, frzL, plnL, List.map_cons, List.map_nil, List.length_cons, List.length_nil, List.replicate_succ, List.replicate_zero, List.cons_append, List.nil_append, List.append_nil, List.getElem?_cons_zero, List.getElem?_cons_succ, List.getElem?_nil, List.set_cons_zero, List.set_cons_succ, List.set_nil, atI_0, atI_1, atI_2, atI_3, atI_4, ixN_0, ixN_1, ixN_2, plnL_dats, frzL_dats, allK_map, anyK_map, sumK_map, eqv_int, eqOk_int, eqOk_none, eqOk_bool, eqOk_str, bkOk, putBack, adr, pick, List.getD_cons_zero, List.getD_cons_succ, redat, wipeD, true_and, and_true, if_true, if_false, ite_true, ite_false, Bool.true_and, Bool.and_true, Bool.false_and, Bool.not_true, Bool.not_false, Option.getD_some]
             have e2 : ∀ xs : List PyData, (xs.all fun _ => true) = true := fun xs => by simp
             simpa [e2] using h)
    | tuple ds =>
      first
        | (simp [lensOk] at hs; done)
        | (simp only [lensOk, Bool.and_eq_true, decide_eq_true_eq, List.all_eq_true] at hs
           simp only [dSeq, dNext, dIf, dRet, dRetN, dSet, dDrop, dC, dVar, dMv, dOp, dTest, dTru, dNot, dAnd, dOr, dAndV, dOrV, dNotV, dIfE, dCons, dNil, dLst, dTup, dFrz, dNeg, dChain, dIx, dIxS, dCa, dIsi, dIsi2, dAsg, dgName, dgTup, dgCons, dgNil, dwSeq, dwTup, dwRng1, dwRng2, dwEnum, dwZip, zipD_map, eqv_strS, plnL_T, frzL_T, dListOf, dIsN, dNotN, tN, dCat, dSl, dNoPart, dPart, dFor, dSetIx, dApp, dCall, dCallK, dPar, dOrT, dAndT, dYes, bodyE, keepPs, keepP, addK, subK, mulK, fdivK, modK, powK, ltK, leK, gtK, geK, eqK, neK, isK, isNotK, isNone, ixK, lenK, maxK, minK, absK, intK, strK, isIn_int, isIn_bool, isIn_list, isIn_tuple, isIn_str, truD, DL.T.frz, DL.T.pln, frzL, plnL, List.map_cons, List.map_nil, List.length_cons, List.length_nil, List.replicate_succ, List.replicate_zero, List.cons_append, List.nil_append, List.append_nil, List.getElem?_cons_zero, List.getElem?_cons_succ, List.getElem?_nil, List.set_cons_zero, List.set_cons_succ, List.set_nil, atI_0, atI_1, atI_2, atI_3, atI_4, ixN_0, ixN_1, ixN_2, plnL_dats, frzL_dats, allK_map, anyK_map, sumK_map, eqv_int, eqOk_int, eqOk_none, eqOk_bool, eqOk_str, bkOk, putBack, adr, pick, List.getD_cons_zero, List.getD_cons_succ, redat, wipeD, true_and, and_true, if_true, if_false, ite_true, ite_false, Bool.true_and, Bool.and_true, Bool.false_and, Bool.not_true, Bool.not_false, Option.getD_some, dLc]
           simp
           refine ⟨by omega, ?_⟩
           refine lc_map (fun _ => .bool true) (rngD 0 ds.length) [] (fun d hd Q hQ => ?_) (sz (by simp [rngD_len]; omega)) ?_
           · obtain ⟨i, hi, rfl⟩ := mem_rngD hd
             have e : atI ds (0 + (i : Int)) = some ds[i] := by
               rw [Int.zero_add, atI_nat', List.getElem?_eq_getElem hi]
             simp only [dSeq, dNext, dIf, dRet, dRetN, dSet, dDrop, dC, dVar, dMv, dOp, dTest, dTru, dNot, dAnd, dOr, dAndV, dOrV, dNotV, dIfE, dCons, dNil, dLst, dTup, dFrz, dNeg, dChain, dIx, dIxS, dCa, dIsi, dIsi2, dAsg, dgName, dgTup, dgCons, dgNil, dwSeq, dwTup, dwRng1, dwRng2, dwEnum, dwZip, zipD_map, eqv_strS, plnL_T, frzL_T, dListOf, dIsN, dNotN, tN, dCat, dSl, dNoPart, dPart, dFor, dSetIx, dApp, dCall, dCallK, dPar, dOrT, dAndT, dYes, bodyE, keepPs, keepP, addK, subK, mulK, fdivK, modK, powK, ltK, leK, gtK, geK, eqK, neK, isK, isNotK, isNone, ixK, lenK, maxK, minK, absK, intK, strK, isIn_int, isIn_bool, isIn_list, isIn_tuple, isIn_str, truD, DL.T.frz, DL.T.pln, frzL, plnL, List.map_cons, List.map_nil, List.length_cons, List.length_nil, List.replicate_succ, List.replicate_zero, List.cons_append, List.nil_append, List.append_nil, List.getElem?_cons_zero, List.getElem?_cons_succ, List.getElem?_nil, List.set_cons_zero, List.set_cons_succ, List.set_nil, atI_0, atI_1, atI_2, atI_3, atI_4, ixN_0, ixN_1, ixN_2, plnL_dats, frzL_dats, allK_map, anyK_map, sumK_map, eqv_int, eqOk_int, eqOk_none, eqOk_bool, eqOk_str, bkOk, putBack, adr, pick, List.getD_cons_zero, List.getD_cons_succ, redat, wipeD, true_and, and_true, if_true, if_false, ite_true, ite_false, Bool.true_and, Bool.and_true, Bool.false_and, Bool.not_true, Bool.not_false, Option.getD_some, e, sr_law_same]
             exact ⟨by decide, _, rfl, hs.2 _ (List.getElem_mem hi), hQ _ (by simp [dSeq, dNext, dIf, dRet, dRetN, dSet, dDrop, dC, dVar, dMv, dOp, dTest, dTru, dNot, dAnd, dOr, dAndV, dOrV, dNotV, dIfE, dCons, dNil, dLst, dTup, dFrz, dNeg, dChain, dIx, dIxS, dCa, dIsi, dIsi2, dAsg, dgName, dgTup, dgCons, dgNil, dwSeq, dwTup, dwRng1, dwRng2, dwEnum, dwZip, zipD_map, eqv_strS, plnL_T, frzL_T, dListOf, dIsN, dNotN, tN, dCat, dSl, dNoPart, dPart, dFor, dSetIx, dApp, dCall, dCallK, dPar, dOrT, dAndT, dYes, bodyE, keepPs, keepP, addK, subK, mulK, fdivK, modK, powK, ltK, leK, gtK, geK, eqK, neK, isK, isNotK, isNone, ixK, lenK, maxK, minK, absK, intK, strK, isIn_int, isIn_bool, isIn_list, isIn_tuple, isIn_str, truD, DL.T.frz, DL.T.pln, frzL, plnL, List.map_cons, List.map_nil, List.length_cons, List.length_nil, List.replicate_succ, List.replicate_zero, List.cons_append, List.nil_append, List.append_nil, List.getElem?_cons_zero, List.getElem?_cons_succ, List.getElem?_nil, List.set_cons_zero, List.set_cons_succ, List.set_nil, atI_0, atI_1, atI_2, atI_3, atI_4, ixN_0, ixN_1, ixN_2, plnL_dats, frzL_dats, allK_map, anyK_map, sumK_map, eqv_int, eqOk_int, eqOk_none, eqOk_bool, eqOk_str, bkOk, putBack, adr, pick, List.getD_cons_zero, List.getD_cons_succ, redat, wipeD, true_and, and_true, if_true, if_false, ite_true, ite_false, Bool.true_and, Bool.and_true, Bool.false_and, Bool.not_true, Bool.not_false, Option.getD_some])⟩
           · simp only [dSeq, dNext, dIf, dRet, dRetN, dSet, dDrop, dC, dVar, dMv, dOp, dTest, dTru, dNot, dAnd, dOr, dAndV, dOrV, dNotV, dIfE, dCons, dNil, dLst, dTup, dFrz, dNeg, dChain, dIx, dIxS, dCa, dIsi, dIsi2, dAsg, dgName, dgTup, dgCons, dgNil, dwSeq, dwTup, dwRng1, dwRng2, dwEnum, dwZip, zipD_map, eqv_strS, plnL_T, frzL_T, dListOf, dIsN, dNotN, tN, dCat, dSl, dNoPart, dPart, dFor, dSetIx, dApp, dCall, dCallK, dPar, dOrT, dAndT, dYes, bodyE, keepPs, keepP, addK, subK, mulK, fdivK, modK, powK, ltK, leK, gtK, geK, eqK, neK, isK, isNotK, isNone, ixK, lenK, maxK, minK, absK, intK, strK, isIn_int, isIn_bool, isIn_list, isIn_tuple, isIn_str, truD, DL.T.frz, DL.T.pln, frzL, plnL, List.map_cons, List.map_nil, List.length_cons, List.length_nil, List.replicate_succ, List.replicate_zero, List.cons_append, List.nil_append, List.append_nil, List.getElem?_cons_zero, List.getElem?_cons_succ, List.getElem?_nil, List.set_cons_zero, List.set_cons_succ, List.set_nil, atI_0, atI_1, atI_2, atI_3, atI_4, ixN_0, ixN_1, ixN_2, plnL_dats, frzL_dats, allK_map, anyK_map, sumK_map, eqv_int, eqOk_int, eqOk_none, eqOk_bool, eqOk_str, bkOk, putBack, adr, pick, List.getD_cons_zero, List.getD_cons_succ, redat, wipeD, true_and, and_true, if_true, if_false, ite_true, ite_false, Bool.true_and, Bool.and_true, Bool.false_and, Bool.not_true, Bool.not_false, Option.getD_some]
             have e2 : ∀ xs : List PyData, (xs.all fun _ => true) = true := fun xs => by simp
             simpa [e2] using h)

  | succ n IH =>
    refine fn_okD (N := ["found", "due", "k"]) (k := 1 + n) (sp := sr_law_same (n + 1)) tx.F_law_same sc_law_same ?_
    intro cdv Ar outer s H E hr
    refine Exists.intro _ (And.intro (pssd_cons (psd_if (ptd_val (pd_isi2 (pdv 1) (by rfl) tx.n_isinstance (by rfl) tx.n_list (by decide +kernel) (by rfl) tx.n_tuple (by decide +kernel))) (pssd_cons (psd_if ((pwd_or (ptd_not (ptd_val (pd_isi2 (pdv 0) (by rfl) tx.n_isinstance (by rfl) tx.n_list (by decide +kernel) (by rfl) tx.n_tuple (by decide +kernel)))) (pwd_or1 (ptd_cmp (od_ne hr.units) (pd_isi (pdv 0) (by rfl) tx.n_isinstance (by rfl) tx.n_list (by decide +kernel)) (pd_isi (pdv 1) (by rfl) tx.n_isinstance (by rfl) tx.n_list (by decide +kernel)))))).pt (pssd_one (psd_ret pd_bl)) pssd_nil) (pssd_one (psd_ret (pd_and (pd_cmp (od_eq hr.units) (pd_callB ca_len (by rfl) tx.n_len (by decide +kernel) (pad_cons (pdv 0) pad_nil)) (pd_callB ca_len (by rfl) tx.n_len (by decide +kernel) (pad_cons (pdv 1) pad_nil))) (pd_one (pd_callB (ca_all (by rfl)) (by rfl) tx.n_all (by decide +kernel) (pad_cons (pd_frz (pd_lc (own := [("k", 2)]) rfl sc_law_same.nd (pid_rng1 (by rfl) tx.n_range (pad_cons (pd_callB ca_len (by rfl) tx.n_len (by decide +kernel) (pad_cons (pdv 1) pad_nil)) pad_nil)) (blkOk_by (N := ["found", "due", "k"]) (sc := defScope s_law_same) (by decide +kernel)) (fun _ _ _ _ _ => (pg_name (i := 2) sc_law_same.nd rfl (Or.inl rfl))) (link_name (by decide)) (fun _ _ _ _ _ => ptsd_nil) (fun _ _ _ _ _ => (pd_call (dv := []) (dvs := []) IH (hr.mono (by omega)) (by rfl) tx.F_law_same.g tx.F_law_same.F.kp (b_law_same tx) .nil rfl [] (pad_cons (pd_ix (pdv 0) (pdv 2)) (pad_cons (pd_ix (pdv 1) (pdv 2)) pad_nil)))))) pad_nil))))))) pssd_nil) (pssd_cons (psd_if ((pwd_or (ptd_cmp od_is (pdv 1) pd_non) (pwd_or1 (ptd_cmp od_is (pdv 0) pd_non)))).pt (pssd_one (psd_ret (pd_and (pd_cmp od_is (pdv 1) pd_non) (pd_one (pd_cmp od_is (pdv 0) pd_non))))) pssd_nil) (pssd_cons (psd_if ((pwd_or (ptd_val (pd_isi (pdv 0) (by rfl) tx.n_isinstance (by rfl) tx.n_bool (by decide +kernel))) (pwd_or1 (ptd_val (pd_isi (pdv 1) (by rfl) tx.n_isinstance (by rfl) tx.n_bool (by decide +kernel)))))).pt (pssd_one (psd_ret (pd_and (pd_isi (pdv 0) (by rfl) tx.n_isinstance (by rfl) tx.n_bool (by decide +kernel)) (pd_and (pd_isi (pdv 1) (by rfl) tx.n_isinstance (by rfl) tx.n_bool (by decide +kernel)) (pd_one (pd_cmp (od_eq hr.units) (pdv 0) (pdv 1))))))) pssd_nil) (pssd_one (psd_ret (pd_and (pd_cmp (od_eq hr.units) (pd_isi (pdv 0) (by rfl) tx.n_isinstance (by rfl) tx.n_int (by decide +kernel)) (pd_isi (pdv 1) (by rfl) tx.n_isinstance (by rfl) tx.n_int (by decide +kernel))) (pd_one (pd_cmp (od_eq hr.units) (pdv 0) (pdv 1))))))))) ?_)
    intro As Qd hl h
    obtain ⟨d, rfl, hs, h⟩ := h
    cases d with
    | none => simp [dSeq, dNext, dIf, dRet, dRetN, dSet, dDrop, dC, dVar, dMv, dOp, dTest, dTru, dNot, dAnd, dOr, dAndV, dOrV, dNotV, dIfE, dCons, dNil, dLst, dTup, dFrz, dNeg, dChain, dIx, dIxS, dCa, dIsi, dIsi2, dAsg, dgName, dgTup, dgCons, dgNil, dwSeq, dwTup, dwRng1, dwRng2, dwEnum, dwZip, zipD_map, eqv_strS, plnL_T, frzL_T, dListOf, dIsN, dNotN, tN, dCat, dSl, dNoPart, dPart, dFor, dSetIx, dApp, dCall, dCallK, dPar, dOrT, dAndT, dYes, bodyE, keepPs, keepP, addK, subK, mulK, fdivK, modK, powK, ltK, leK, gtK, geK, eqK, neK, isK, isNotK, isNone, ixK, lenK, maxK, minK, absK, intK, strK, isIn_int, isIn_bool, isIn_list, isIn_tuple, isIn_str, truD, DL.T.frz, DL.T.pln, frzL, plnL, List.map_cons, List.map_nil, List.length_cons, List.length_nil, List.replicate_succ, List.replicate_zero, List.cons_append, List.nil_append, List.append_nil, List.getElem?_cons_zero, List.getElem?_cons_succ, List.getElem?_nil, List.set_cons_zero, List.set_cons_succ, List.set_nil, atI_0, atI_1, atI_2, atI_3, atI_4, ixN_0, ixN_1, ixN_2, plnL_dats, frzL_dats, allK_map, anyK_map, sumK_map, eqv_int, eqOk_int, eqOk_none, eqOk_bool, eqOk_str, bkOk, putBack, adr, pick, List.getD_cons_zero, List.getD_cons_succ, redat, wipeD, true_and, and_true, if_true, if_false, ite_true, ite_false, Bool.true_and, Bool.and_true, Bool.false_and, Bool.not_true, Bool.not_false, Option.getD_some]; exact h
    | bool b => simp [dSeq, dNext, dIf, dRet, dRetN, dSet, dDrop, dC, dVar, dMv, dOp, dTest, dTru, dNot, dAnd, dOr, dAndV, dOrV, dNotV, dIfE, dCons, dNil, dLst, dTup, dFrz, dNeg, dChain, dIx, dIxS, dCa, dIsi, dIsi2, dAsg, dgName, dgTup, dgCons, dgNil, dwSeq, dwTup, dwRng1, dwRng2, dwEnum, dwZip, zipD_map, eqv_strS, plnL_T, frzL_T, dListOf, dIsN, dNotN, tN, dCat, dSl, dNoPart, dPart, dFor, dSetIx, dApp, dCall, dCallK, dPar, dOrT, dAndT, dYes, bodyE, keepPs, keepP, addK, subK, mulK, fdivK, modK, powK, ltK, leK, gtK, geK, eqK, neK, isK, isNotK, isNone, ixK, lenK, maxK, minK, absK, intK, strK, isIn_int, isIn_bool, isIn_list, isIn_tuple, isIn_str, truD, DL.T.frz, DL.T.pln, frzL, plnL, List.map_cons, List.map_nil, List.length_cons, List.length_nil, List.replicate_succ, List.replicate_zero, List.cons_append, List.nil_append, List.append_nil, List.getElem?_cons_zero, List.getElem?_cons_succ, List.getElem?_nil, List.set_cons_zero, List.set_cons_succ, List.set_nil, atI_0, atI_1, atI_2, atI_3, atI_4, ixN_0, ixN_1, ixN_2, plnL_dats, frzL_dats, allK_map, anyK_map, sumK_map, eqv_int, eqOk_int, eqOk_none, eqOk_bool, eqOk_str, bkOk, putBack, adr, pick, List.getD_cons_zero, List.getD_cons_succ, redat, wipeD, true_and, and_true, if_true, if_false, ite_true, ite_false, Bool.true_and, Bool.and_true, Bool.false_and, Bool.not_true, Bool.not_false, Option.getD_some, PyData.eqv]; exact h
    | int i => simp [dSeq, dNext, dIf, dRet, dRetN, dSet, dDrop, dC, dVar, dMv, dOp, dTest, dTru, dNot, dAnd, dOr, dAndV, dOrV, dNotV, dIfE, dCons, dNil, dLst, dTup, dFrz, dNeg, dChain, dIx, dIxS, dCa, dIsi, dIsi2, dAsg, dgName, dgTup, dgCons, dgNil, dwSeq, dwTup, dwRng1, dwRng2, dwEnum, dwZip, zipD_map, eqv_strS, plnL_T, frzL_T, dListOf, dIsN, dNotN, tN, dCat, dSl, dNoPart, dPart, dFor, dSetIx, dApp, dCall, dCallK, dPar, dOrT, dAndT, dYes, bodyE, keepPs, keepP, addK, subK, mulK, fdivK, modK, powK, ltK, leK, gtK, geK, eqK, neK, isK, isNotK, isNone, ixK, lenK, maxK, minK, absK, intK, strK, isIn_int, isIn_bool, isIn_list, isIn_tuple, isIn_str, truD, DL.T.frz, DL.T.pln, frzL, plnL, List.map_cons, List.map_nil, List.length_cons, List.length_nil, List.replicate_succ, List.replicate_zero, List.cons_append, List.nil_append, List.append_nil, List.getElem?_cons_zero, List.getElem?_cons_succ, List.getElem?_nil, List.set_cons_zero, List.set_cons_succ, List.set_nil, atI_0, atI_1, atI_2, atI_3, atI_4, ixN_0, ixN_1, ixN_2, plnL_dats, frzL_dats, allK_map, anyK_map, sumK_map, eqv_int, eqOk_int, eqOk_none, eqOk_bool, eqOk_str, bkOk, putBack, adr, pick, List.getD_cons_zero, List.getD_cons_succ, redat, wipeD, true_and, and_true, if_true, if_false, ite_true, ite_false, Bool.true_and, Bool.and_true, Bool.false_and, Bool.not_true, Bool.not_false, Option.getD_some]; exact h
    | str x => cases (n + 1) <;> simp [lensOk] at hs
    | dict x => cases (n + 1) <;> simp [lensOk] at hs
    | list ds =>
      first
        | (simp [lensOk] at hs; done)
        | (simp only [lensOk, Bool.and_eq_true, decide_eq_true_eq, List.all_eq_true] at hs
           simp only [dSeq, dNext, dIf, dRet, dRetN, dSet, dDrop, dC, dVar, dMv, dOp, dTest, dTru, dNot, dAnd, dOr, dAndV, dOrV, dNotV, dIfE, dCons, dNil, dLst, dTup, dFrz, dNeg, dChain, dIx, dIxS, dCa, dIsi, dIsi2, dAsg, dgName, dgTup, dgCons, dgNil, dwSeq, dwTup, dwRng1, dwRng2, dwEnum, dwZip, zipD_map, eqv_strS, plnL_T, frzL_T, dListOf, dIsN, dNotN, tN, dCat, dSl, dNoPart, dPart, dFor, dSetIx, dApp, dCall, dCallK, dPar, dOrT, dAndT, dYes, bodyE, keepPs, keepP, addK, subK, mulK, fdivK, modK, powK, ltK, leK, gtK, geK, eqK, neK, isK, isNotK, isNone, ixK, lenK, maxK, minK, absK, intK, strK, isIn_int, isIn_bool, isIn_list, isIn_tuple, isIn_str, truD, DL.T.frz, DL.T.pln, frzL, plnL, List.map_cons, List.map_nil, List.length_cons, List.length_nil, List.replicate_succ, List.replicate_zero, List.cons_append, List.nil_append, List.append_nil, List.getElem?_cons_zero, List.getElem?_cons_succ, List.getElem?_nil, List.set_cons_zero, List.set_cons_succ, List.set_nil, atI_0, atI_1, atI_2, atI_3, atI_4, ixN_0, ixN_1, ixN_2, plnL_dats, frzL_dats, allK_map, anyK_map, sumK_map, eqv_int, eqOk_int, eqOk_none, eqOk_bool, eqOk_str, bkOk, putBack, adr, pick, List.getD_cons_zero, List.getD_cons_succ, redat, wipeD, true_and, and_true, if_true, if_false, ite_true, ite_false, Bool.true_and, Bool.and_true, Bool.false_and, Bool.not_true, Bool.not_false, Option.getD_some, dLc]
           simp
           refine ⟨by omega, ?_⟩
           refine lc_map (fun _ => .bool true) (rngD 0 ds.length) [] (fun d hd Q hQ => ?_) (sz (by simp [rngD_len]; omega)) ?_
           · obtain ⟨i, hi, rfl⟩ := mem_rngD hd
             have e : atI ds (0 + (i : Int)) = some ds[i] := by
               rw [Int.zero_add, atI_nat', List.getElem?_eq_getElem hi]
             simp only [dSeq, dNext, dIf, dRet, dRetN, dSet, dDrop, dC, dVar, dMv, dOp, dTest, dTru, dNot, dAnd, dOr, dAndV, dOrV, dNotV, dIfE, dCons, dNil, dLst, dTup, dFrz, dNeg, dChain, dIx, dIxS, dCa, dIsi, dIsi2, dAsg, dgName, dgTup, dgCons, dgNil, dwSeq, dwTup, dwRng1, dwRng2, dwEnum, dwZip, zipD_map, eqv_strS, plnL_T, frzL_T, dListOf, dIsN, dNotN, tN, dCat, dSl, dNoPart, dPart, dFor, dSetIx, dApp, dCall, dCallK, dPar, dOrT, dAndT, dYes, bodyE, keepPs, keepP, addK, subK, mulK, fdivK, modK, powK, ltK, leK, gtK, geK, eqK, neK, isK, isNotK, isNone, ixK, lenK, maxK, minK, absK, intK, strK, isIn_int, isIn_bool, isIn_list, isIn_tuple, isIn_str, truD, DL.T.frz, DL.T.pln, frzL, plnL, List.map_cons, List.map_nil, List.length_cons, List.length_nil, List.replicate_succ, List.replicate_zero, List.cons_append, List.nil_append, List.append_nil, List.getElem?_cons_zero, List.getElem?_cons_succ, List.getElem?_nil, List.set_cons_zero, List.set_cons_succ, List.set_nil, atI_0, atI_1, atI_2, atI_3, atI_4, ixN_0, ixN_1, ixN_2, plnL_dats, frzL_dats, allK_map, anyK_map, sumK_map, eqv_int, eqOk_int, eqOk_none, eqOk_bool, eqOk_str, bkOk, putBack, adr, pick, List.getD_cons_zero, List.getD_cons_succ, redat, wipeD, true_and, and_true, if_true, if_false, ite_true, ite_false, Bool.true_and, Bool.and_true, Bool.false_and, Bool.not_true, Bool.not_false, Option.getD_some, e, sr_law_same]
             exact ⟨by decide, _, rfl, hs.2 _ (List.getElem_mem hi), hQ _ (by simp [dSeq, dNext, dIf, dRet, dRetN, dSet, dDrop, dC, dVar, dMv, dOp, dTest, dTru, dNot, dAnd, dOr, dAndV, dOrV, dNotV, dIfE, dCons, dNil, dLst, dTup, dFrz, dNeg, dChain, dIx, dIxS, dCa, dIsi, dIsi2, dAsg, dgName, dgTup, dgCons, dgNil, dwSeq, dwTup, dwRng1, dwRng2, dwEnum, dwZip, zipD_map, eqv_strS, plnL_T, frzL_T, dListOf, dIsN, dNotN, tN, dCat, dSl, dNoPart, dPart, dFor, dSetIx, dApp, dCall, dCallK, dPar, dOrT, dAndT, dYes, bodyE, keepPs, keepP, addK, subK, mulK, fdivK, modK, powK, ltK, leK, gtK, geK, eqK, neK, isK, isNotK, isNone, ixK, lenK, maxK, minK, absK, intK, strK, isIn_int, isIn_bool, isIn_list, isIn_tuple, isIn_str, truD, DL.T.frz, DL.T.pln, frzL, plnL, List.map_cons, List.map_nil, List.length_cons, List.length_nil, List.replicate_succ, List.replicate_zero, List.cons_append, List.nil_append, List.append_nil, List.getElem?_cons_zero, List.getElem?_cons_succ, List.getElem?_nil, List.set_cons_zero, List.set_cons_succ, List.set_nil, atI_0, atI_1, atI_2, atI_3, atI_4, ixN_0, ixN_1, ixN_2, plnL_dats, frzL_dats, allK_map, anyK_map, sumK_map, eqv_int, eqOk_int, eqOk_none, eqOk_bool, eqOk_str, bkOk, putBack, adr, pick, List.getD_cons_zero, List.getD_cons_succ, redat, wipeD, true_and, and_true, if_true, if_false, ite_true, ite_false, Bool.true_and, Bool.and_true, Bool.false_and, Bool.not_true, Bool.not_false, Option.getD_some])⟩
           · simp only [dSeq, dNext, dIf, dRet, dRetN, dSet, dDrop, dC, dVar, dMv, dOp, dTest, dTru, dNot, dAnd, dOr, dAndV, dOrV, dNotV, dIfE, dCons, dNil, dLst, dTup, dFrz, dNeg, dChain, dIx, dIxS, dCa, dIsi, dIsi2, dAsg, dgName, dgTup, dgCons, dgNil, dwSeq, dwTup, dwRng1, dwRng2, dwEnum, dwZip, zipD_map, eqv_strS, plnL_T, frzL_T, dListOf, dIsN, dNotN, tN, dCat, dSl, dNoPart, dPart, dFor, dSetIx, dApp, dCall, dCallK, dPar, dOrT, dAndT, dYes, bodyE, keepPs, keepP, addK, subK, mulK, fdivK, modK, powK, ltK, leK, gtK, geK, eqK, neK, isK, isNotK, isNone, ixK, lenK, maxK, minK, absK, intK, strK, isIn_int, isIn_bool, isIn_list, isIn_tuple, isIn_str, truD, DL.T.frz, DL.T.pln, frzL, plnL, List.map_cons, List.map_nil, List.length_cons, List.length_nil, List.replicate_succ, List.replicate_zero, List.cons_append, List.nil_append, List.append_nil, List.getElem?_cons_zero, List.getElem?_cons_succ, List.getElem?_nil, List.set_cons_zero, List.set_cons_succ, List.set_nil, atI_0, atI_1, atI_2, atI_3, atI_4, ixN_0, ixN_1, ixN_2, plnL_dats, frzL_dats, allK_map, anyK_map, sumK_map, eqv_int, eqOk_int, eqOk_none, eqOk_bool, eqOk_str, bkOk, putBack, adr, pick, List.getD_cons_zero, List.getD_cons_succ, redat, wipeD, true_and, and_true, if_true, if_false, ite_true, ite_false, Bool.true_and, Bool.and_true, Bool.false_and, Bool.not_true, Bool.not_false, Option.getD_some]
             have e2 : ∀ xs : List PyData, (xs.all fun _ => true) = true := fun xs => by simp
             simpa [e2] using h)
    | tuple ds =>
      first
        | (simp [lensOk] at hs; done)
        | (simp only [lensOk, Bool.and_eq_true, decide_eq_true_eq, List.all_eq_true] at hs
           simp only [dSeq, dNext, dIf, dRet, dRetN, dSet, dDrop, dC, dVar, dMv, dOp, dTest, dTru, dNot, dAnd, dOr, dAndV, dOrV, dNotV, dIfE, dCons, dNil, dLst, dTup, dFrz, dNeg, dChain, dIx, dIxS, dCa, dIsi, dIsi2, dAsg, dgName, dgTup, dgCons, dgNil, dwSeq, dwTup, dwRng1, dwRng2, dwEnum, dwZip, zipD_map, eqv_strS, plnL_T, frzL_T, dListOf, dIsN, dNotN, tN, dCat, dSl, dNoPart, dPart, dFor, dSetIx, dApp, dCall, dCallK, dPar, dOrT, dAndT, dYes, bodyE, keepPs, keepP, addK, subK, mulK, fdivK, modK, powK, ltK, leK, gtK, geK, eqK, neK, isK, isNotK, isNone, ixK, lenK, maxK, minK, absK, intK, strK, isIn_int, isIn_bool, isIn_list, isIn_tuple, isIn_str, truD, DL.T.frz, DL.T.pln, frzL, plnL, List.map_cons, List.map_nil, List.length_cons, List.length_nil, List.replicate_succ, List.replicate_zero, List.cons_append, List.nil_append, List.append_nil, List.getElem?_cons_zero, List.getElem?_cons_succ, List.getElem?_nil, List.set_cons_zero, List.set_cons_succ, List.set_nil, atI_0, atI_1, atI_2, atI_3, atI_4, ixN_0, ixN_1, ixN_2, plnL_dats, frzL_dats, allK_map, anyK_map, sumK_map, eqv_int, eqOk_int, eqOk_none, eqOk_bool, eqOk_str, bkOk, putBack, adr, pick, List.getD_cons_zero, List.getD_cons_succ, redat, wipeD, true_and, and_true, if_true, if_false, ite_true, ite_false, Bool.true_and, Bool.and_true, Bool.false_and, Bool.not_true, Bool.not_false, Option.getD_some, dLc]
           simp
           refine ⟨by omega, ?_⟩
           refine lc_map (fun _ => .bool true) (rngD 0 ds.length) [] (fun d hd Q hQ => ?_) (sz (by simp [rngD_len]; omega)) ?_
           · obtain ⟨i, hi, rfl⟩ := mem_rngD hd
             have e : atI ds (0 + (i : Int)) = some ds[i] := by
               rw [Int.zero_add, atI_nat', List.getElem?_eq_getElem hi]
             simp only [dSeq, dNext, dIf, dRet, dRetN, dSet, dDrop, dC, dVar, dMv, dOp, dTest, dTru, dNot, dAnd, dOr, dAndV, dOrV, dNotV, dIfE, dCons, dNil, dLst, dTup, dFrz, dNeg, dChain, dIx, dIxS, dCa, dIsi, dIsi2, dAsg, dgName, dgTup, dgCons, dgNil, dwSeq, dwTup, dwRng1, dwRng2, dwEnum, dwZip, zipD_map, eqv_strS, plnL_T, frzL_T, dListOf, dIsN, dNotN, tN, dCat, dSl, dNoPart, dPart, dFor, dSetIx, dApp, dCall, dCallK, dPar, dOrT, dAndT, dYes, bodyE, keepPs, keepP, addK, subK, mulK, fdivK, modK, powK, ltK, leK, gtK, geK, eqK, neK, isK, isNotK, isNone, ixK, lenK, maxK, minK, absK, intK, strK, isIn_int, isIn_bool, isIn_list, isIn_tuple, isIn_str, truD, DL.T.frz, DL.T.pln, frzL, plnL, List.map_cons, List.map_nil, List.length_cons, List.length_nil, List.replicate_succ, List.replicate_zero, List.cons_append, List.nil_append, List.append_nil, List.getElem?_cons_zero, List.getElem?_cons_succ, List.getElem?_nil, List.set_cons_zero, List.set_cons_succ, List.set_nil, atI_0, atI_1, atI_2, atI_3, atI_4, ixN_0, ixN_1, ixN_2, plnL_dats, frzL_dats, allK_map, anyK_map, sumK_map, eqv_int, eqOk_int, eqOk_none, eqOk_bool, eqOk_str, bkOk, putBack, adr, pick, List.getD_cons_zero, List.getD_cons_succ, redat, wipeD, true_and, and_true, if_true, if_false, ite_true, ite_false, Bool.true_and, Bool.and_true, Bool.false_and, Bool.not_true, Bool.not_false, Option.getD_some, e, sr_law_same]
             exact ⟨by decide, _, rfl, hs.2 _ (List.getElem_mem hi), hQ _ (by simp [dSeq, dNext, dIf, dRet, dRetN, dSet, dDrop, dC, dVar, dMv, dOp, dTest, dTru, dNot, dAnd, dOr, dAndV, dOrV, dNotV, dIfE, dCons, dNil, dLst, dTup, dFrz, dNeg, dChain, dIx, dIxS, dCa, dIsi, dIsi2, dAsg, dgName, dgTup, dgCons, dgNil, dwSeq, dwTup, dwRng1, dwRng2, dwEnum, dwZip, zipD_map, eqv_strS, plnL_T, frzL_T, dListOf, dIsN, dNotN, tN, dCat, dSl, dNoPart, dPart, dFor, dSetIx, dApp, dCall, dCallK, dPar, dOrT, dAndT, dYes, bodyE, keepPs, keepP, addK, subK, mulK, fdivK, modK, powK, ltK, leK, gtK, geK, eqK, neK, isK, isNotK, isNone, ixK, lenK, maxK, minK, absK, intK, strK, isIn_int, isIn_bool, isIn_list, isIn_tuple, isIn_str, truD, DL.T.frz, DL.T.pln, frzL, plnL, List.map_cons, List.map_nil, List.length_cons, List.length_nil, List.replicate_succ, List.replicate_zero, List.cons_append, List.nil_append, List.append_nil, List.getElem?_cons_zero, List.getElem?_cons_succ, List.getElem?_nil, List.set_cons_zero, List.set_cons_succ, List.set_nil, atI_0, atI_1, atI_2, atI_3, atI_4, ixN_0, ixN_1, ixN_2, plnL_dats, frzL_dats, allK_map, anyK_map, sumK_map, eqv_int, eqOk_int, eqOk_none, eqOk_bool, eqOk_str, bkOk, putBack, adr, pick, List.getD_cons_zero, List.getD_cons_succ, redat, wipeD, true_and, and_true, if_true, if_false, ite_true, ite_false, Bool.true_and, Bool.and_true, Bool.false_and, Bool.not_true, Bool.not_false, Option.getD_some])⟩
           · simp only [dSeq, dNext, dIf, dRet, dRetN, dSet, dDrop, dC, dVar, dMv, dOp, dTest, dTru, dNot, dAnd, dOr, dAndV, dOrV, dNotV, dIfE, dCons, dNil, dLst, dTup, dFrz, dNeg, dChain, dIx, dIxS, dCa, dIsi, dIsi2, dAsg, dgName, dgTup, dgCons, dgNil, dwSeq, dwTup, dwRng1, dwRng2, dwEnum, dwZip, zipD_map, eqv_strS, plnL_T, frzL_T, dListOf, dIsN, dNotN, tN, dCat, dSl, dNoPart, dPart, dFor, dSetIx, dApp, dCall, dCallK, dPar, dOrT, dAndT, dYes, bodyE, keepPs, keepP, addK, subK, mulK, fdivK, modK, powK, ltK, leK, gtK, geK, eqK, neK, isK, isNotK, isNone, ixK, lenK, maxK, minK, absK, intK, strK, isIn_int, isIn_bool, isIn_list, isIn_tuple, isIn_str, truD, DL.T.frz, DL.T.pln, frzL, plnL, List.map_cons, List.map_nil, List.length_cons, List.length_nil, List.replicate_succ, List.replicate_zero, List.cons_append, List.nil_append, List.append_nil, List.getElem?_cons_zero, List.getElem?_cons_succ, List.getElem?_nil, List.set_cons_zero, List.set_cons_succ, List.set_nil, atI_0, atI_1, atI_2, atI_3, atI_4, ixN_0, ixN_1, ixN_2, plnL_dats, frzL_dats, allK_map, anyK_map, sumK_map, eqv_int, eqOk_int, eqOk_none, eqOk_bool, eqOk_str, bkOk, putBack, adr, pick, List.getD_cons_zero, List.getD_cons_succ, redat, wipeD, true_and, and_true, if_true, if_false, ite_true, ite_false, Bool.true_and, Bool.and_true, Bool.false_and, Bool.not_true, Bool.not_false, Option.getD_some]
             have e2 : ∀ xs : List PyData, (xs.all fun _ => true) = true := fun xs => by simp
             simpa [e2] using h)

theorem ok_law_same (tx : Txt K mg A) : FnOk P w K mg base CX0 7 A.a_law_same A.d_law_same ["found", "due"] (spD K 2 (sr_law_same 6)) := ok_law_same_all tx 6
theorem ints_lenB {L : Nat} {f : Nat → Int} (hl : L ≤ 4) : lensOk 6 (.list ((List.range L).map fun j => .int (f j))) = true := by
  simp [lensOk]
  omega
theorem ints_numB {l : List Int} (hl : l.length ≤ 4) (h : ∀ q ∈ l, -1000000 ≤ q ∧ q ≤ 1000000) : num 6 3 (.list (l.map .int)) = true := by
  simp only [num, Bool.and_eq_true, decide_eq_true_eq, numAll_iff, List.length_map, List.mem_map]
  refine ⟨by omega, ?_⟩
  rintro _ ⟨j, hj, rfl⟩
  have := h j hj
  simp only [num, decide_eq_true_eq]
  omega
theorem pair_numB {a b : PyData} (ha : num 6 3 a = true) (hb : num 6 3 b = true) : num 6 4 (.list [a, b]) = true := by
  have up : ∀ (n : Nat) (d : PyData), num 6 n d = true → num 6 (n + 1) d = true := by
    intro n d
    induction n generalizing d with
    | zero => cases d <;> simp [num]
    | succ n ih =>
      cases d <;> simp only [num] <;> try exact id
      all_goals
        simp only [Bool.and_eq_true, numAll_iff]
        exact fun h => ⟨h.1, fun x hx => ih x (h.2 x hx)⟩
  simp [num, numAll, ha, hb]
end
theorem ok_law {P : Program} {w : World} {K : PySem.W.Frag} {mg : Str → Option Value} {base : Heap} {A : Ad} (tx : Txt K mg A) (fa : Addr) (cdv : Value) (s : Shared) (H : Hp) (E : XK) (hr : Room 7 (callerA.deeper (PyProof.Rows.envOfC "law" (defScope s_law) s.heap.objs.size fa cdv))) :
    ∃ td : TSD, PSsD (cxOf CX0 P w K mg base ["script", "k", "till", "mart", "goods", "days", "at", "turn", "rounds", "far", "tags", "words", "due", "first", "again"] "law" (defScope s_law) fa cdv callerA [] s H E).nox (defBody s_law) td ∧
      ∀ ns : List Int, ns.length ≤ 63 → td lawE (some (.dat (.list (ns.map .int))) :: List.replicate (["script", "k", "till", "mart", "goods", "days", "at", "turn", "rounds", "far", "tags", "words", "due", "first", "again"].length - 1) none) := by
  have h_kb_take_of_0_day_prices_market := kb_take_of_0_day_prices_market tx
  have h_kb_take_of_2_day := kb_take_of_2_day tx
  obtain ⟨_, h_bd_take_of_2⟩ := bd_take_of_2 tx
  refine Exists.intro _ (And.intro (pssd_cons (psd_for PassesOwn.never rfl (pid_rng1 (by rfl) tx.n_range (pad_cons (pd_callB (ca_max (by rfl)) (by rfl) tx.n_max (by decide +kernel) (pad_cons pd_int (pad_cons (pd_callB (ca_min (by rfl)) (by rfl) tx.n_min (by decide +kernel) (pad_cons pd_int (pad_cons (pd_callB ca_len (by rfl) tx.n_len (by decide +kernel) (pad_cons (pdv 0) pad_nil)) pad_nil))) pad_nil))) pad_nil)) (pgd_name (i := 1) sc_law.nd) (pssd_cons (psd_set (i := 2) sc_law.nd (pd_call (dv := []) (dvs := []) (ok_law_till tx) (hr.mono (by decide)) (by rfl) tx.F_law_till.g tx.F_law_till.F.kp (b_law_till tx) .nil rfl [] (pad_cons (pdv 0) (pad_cons (pdv 1) pad_nil)))) (pssd_cons (psd_set (i := 3) sc_law.nd (pd_call (dv := []) (dvs := []) (ok_law_market tx) (hr.mono (by decide)) (by rfl) tx.F_law_market.g tx.F_law_market.F.kp (b_law_market tx) .nil rfl [(2, 0)] (pad_cons (pdm 2) pad_nil))) (pssd_cons (psd_asg (pdv 3) (pgd_tup (n := 2) rfl (pgsd_cons (pgd_name (i := 4) sc_law.nd) (pgsd_cons (pgd_name (i := 5) sc_law.nd) pgsd_nil)))) (pssd_one (psd_for PassesOwn.never rfl (pid_rng1 (by rfl) tx.n_range (pad_cons (pd_callB ca_len (by rfl) tx.n_len (by decide +kernel) (pad_cons (pdv 5) pad_nil)) pad_nil)) (pgd_name (i := 6) sc_law.nd) (pssd_one (psd_for PassesOwn.never rfl (pid_rng1 (by rfl) tx.n_range (pad_cons pd_int pad_nil)) (pgd_name (i := 7) sc_law.nd) (pssd_cons (psd_set (i := 8) sc_law.nd (pd_frz (pd_lst (pad_cons pd_int (pad_cons (pd_call (dv := []) (dvs := []) (ok_law_pull tx) (hr.mono (by decide)) (by rfl) tx.F_law_pull.g tx.F_law_pull.F.kp (b_law_pull tx) .nil rfl [(2, 0)] (pad_cons (pdm 2) (pad_cons pd_int pad_nil))) (pad_cons (pd_call (dv := []) (dvs := []) (ok_law_pull tx) (hr.mono (by decide)) (by rfl) tx.F_law_pull.g tx.F_law_pull.F.kp (b_law_pull tx) .nil rfl [(2, 0)] (pad_cons (pdm 2) (pad_cons (pd_op od_pow pd_int pd_int) pad_nil))) (pad_cons (pd_call (dv := []) (dvs := []) (ok_law_pull tx) (hr.mono (by decide)) (by rfl) tx.F_law_pull.g tx.F_law_pull.F.kp (b_law_pull tx) .nil rfl [(2, 0)] (pad_cons (pdm 2) (pad_cons (pd_op od_pow pd_int pd_int) pad_nil))) pad_nil))))))) (pssd_cons (psd_set (i := 9) sc_law.nd (pd_op od_add (pdv 6) (pd_op od_mul (pd_callB ca_len (by rfl) tx.n_len (by decide +kernel) (pad_cons (pdv 5) pad_nil)) (pd_ix (pdv 8) (pdv 7))))) (pssd_cons (psd_set (i := 10) sc_law.nd (pd_frz (pd_call (dv := []) (dvs := []) (ok_law_tags tx) (hr.mono (by decide)) (by rfl) tx.F_law_tags.g tx.F_law_tags.F.kp (b_law_tags tx) .nil rfl [(2, 0)] (pad_cons (pdm 2) (pad_cons (pd_ix (pdv 5) (pdv 6)) (pad_cons (pd_callB ca_len (by rfl) tx.n_len (by decide +kernel) (pad_cons (pdv 4) pad_nil)) pad_nil)))))) (pssd_cons (psd_set (i := 11) sc_law.nd (pd_callB (ca_repr (by rfl) hr.units) (by rfl) tx.n_repr (by decide +kernel) (pad_cons (pd_frz (pd_lst (pad_cons (pdv 3) (pad_cons (pdv 10) pad_nil)))) pad_nil))) (pssd_cons (psd_set (i := 12) sc_law.nd (pd_call (dv := []) (dvs := []) (ok_law_take tx) (hr.mono (by decide)) (by rfl) tx.F_law_take.g tx.F_law_take.F.kp (b_law_take tx) .nil rfl [] (pad_cons (pd_ix (pdv 5) (pdv 6)) (pad_cons (pdv 10) pad_nil)))) (pssd_cons (psd_if (ptd_not (ptd_val (pd_call (dv := []) (dvs := []) (ok_law_same tx) (hr.mono (by decide)) (by rfl) tx.F_law_same.g tx.F_law_same.F.kp (b_law_same tx) .nil rfl [] (pad_cons (pd_callK (ix := [0, 1, 2]) (dv := []) (dvs := []) (ok_take_of tx) (hr.mono (by decide)) (by rfl) tx.F_take_of.g tx.F_take_of.F.kp h_kb_take_of_2_day rfl (pad_cons (pdv 3) (pad_cons (pdv 10) pad_nil)) (pkd_cons (pdv 9) pkd_nil)) (pad_cons (pdv 12) pad_nil))))) (pssd_one (psd_ret pd_bl)) pssd_nil) (pssd_cons (psd_if (ptd_cmp (od_eq hr.units) (pdv 6) pd_int) (pssd_cons (psd_set (i := 13) sc_law.nd (pd_frz (pd_lst (pad_cons (pd_call (dv := [(.int (0))]) (dvs := [(.int (0))]) (ok_take_of tx) (hr.mono (by decide)) (by rfl) tx.F_take_of.g tx.F_take_of.F.kp h_bd_take_of_2.2 h_bd_take_of_2.1 rfl [] (pad_cons (pdv 3) (pad_cons (pdv 10) pad_nil))) (pad_cons (pd_callK (ix := [0, 1, 2]) (dv := []) (dvs := []) (ok_take_of tx) (hr.mono (by decide)) (by rfl) tx.F_take_of.g tx.F_take_of.F.kp h_kb_take_of_2_day rfl (pad_cons (pdv 3) (pad_cons (pdv 10) pad_nil)) (pkd_cons pd_int pkd_nil)) pad_nil))))) (pssd_one (psd_if (ptd_not (ptd_val (pd_call (dv := []) (dvs := []) (ok_law_same tx) (hr.mono (by decide)) (by rfl) tx.F_law_same.g tx.F_law_same.F.kp (b_law_same tx) .nil rfl [] (pad_cons (pdv 13) (pad_cons (pd_frz (pd_lst (pad_cons (pdv 12) (pad_cons (pdv 12) pad_nil)))) pad_nil))))) (pssd_one (psd_ret pd_bl)) pssd_nil))) pssd_nil) (pssd_cons (psd_set (i := 14) sc_law.nd (pd_callK0 (ix := [2, 1, 0]) (dv := []) (dvs := []) (ok_take_of tx) (hr.mono (by decide)) (by rfl) tx.F_take_of.g tx.F_take_of.F.kp h_kb_take_of_0_day_prices_market rfl (pkd_cons (pdv 9) (pkd_cons (pd_frz (pd_list (by rfl) tx.n_list (pdv 10))) (pkd_cons (pdv 3) pkd_nil))))) (pssd_one (psd_if ((pwd_or (ptd_not (ptd_val (pd_call (dv := []) (dvs := []) (ok_law_same tx) (hr.mono (by decide)) (by rfl) tx.F_law_same.g tx.F_law_same.F.kp (b_law_same tx) .nil rfl [] (pad_cons (pdv 14) (pad_cons (pdv 12) pad_nil))))) (pwd_or1 (ptd_cmp (od_ne hr.units) (pd_callB (ca_repr (by rfl) hr.units) (by rfl) tx.n_repr (by decide +kernel) (pad_cons (pd_frz (pd_lst (pad_cons (pdv 3) (pad_cons (pdv 10) pad_nil)))) pad_nil)) (pdv 11))))).pt (pssd_one (psd_ret pd_bl)) pssd_nil)))))))))))))))))) (pssd_one (psd_ret pd_bl))) ?_)
  intro ns hns
  simp only [dSeq, dNext, dIf, dRet, dRetN, dSet, dDrop, dC, dVar, dMv, dOp, dTest, dTru, dNot, dAnd, dOr, dAndV, dOrV, dNotV, dIfE, dCons, dNil, dLst, dTup, dFrz, dNeg, dChain, dIx, dIxS, dCa, dIsi, dIsi2, dAsg, dgName, dgTup, dgCons, dgNil, dwSeq, dwTup, dwRng1, dwRng2, dwEnum, dwZip, zipD_map, eqv_strS, plnL_T, frzL_T, dListOf, dIsN, dNotN, tN, dCat, dSl, dNoPart, dPart, dFor, dSetIx, dApp, dCall, dCallK, dPar, dOrT, dAndT, dYes, bodyE, keepPs, keepP, addK, subK, mulK, fdivK, modK, powK, ltK, leK, gtK, geK, eqK, neK, isK, isNotK, isNone, ixK, lenK, maxK, minK, absK, intK, strK, isIn_int, isIn_bool, isIn_list, isIn_tuple, isIn_str, truD, DL.T.frz, DL.T.pln, frzL, plnL, List.map_cons, List.map_nil, List.length_cons, List.length_nil, List.replicate_succ, List.replicate_zero, List.cons_append, List.nil_append, List.append_nil, List.getElem?_cons_zero, List.getElem?_cons_succ, List.getElem?_nil, List.set_cons_zero, List.set_cons_succ, List.set_nil, atI_0, atI_1, atI_2, atI_3, atI_4, ixN_0, ixN_1, ixN_2, plnL_dats, frzL_dats, allK_map, anyK_map, sumK_map, eqv_int, eqOk_int, eqOk_none, eqOk_bool, eqOk_str, bkOk, putBack, adr, pick, List.getD_cons_zero, List.getD_cons_succ, redat, wipeD, true_and, and_true, if_true, if_false, ite_true, ite_false, Bool.true_and, Bool.and_true, Bool.false_and, Bool.not_true, Bool.not_false, Option.getD_some]
  refine ⟨by omega, by omega, ?_⟩
  refine for_inv (fun k S => ∃ s1 s2 s3 s4 s5 s6 s7 s8 s9 s10 s11 s12 s13 s14, S = [some (.dat (.list (ns.map .int))), s1, s2, s3, s4, s5, s6, s7, s8, s9, s10, s11, s12, s13, s14]) _ 0 _ ?_ ⟨_, _, _, _, _, _, _, _, _, _, _, _, _, _, rfl⟩ ?_
  · rintro k d S hd ⟨s1, s2, s3, s4, s5, s6, s7, s8, s9, s10, s11, s12, s13, s14, rfl⟩ N hN
    obtain ⟨hk, rfl⟩ := get_rngD hd
    have hk' : (k : Int) ≤ 63 := by
      have : (List.map PyData.int ns).length = ns.length := by simp
      split at hk <;> split at hk <;> omega
    simp only [dSeq, dNext, dIf, dRet, dRetN, dSet, dDrop, dC, dVar, dMv, dOp, dTest, dTru, dNot, dAnd, dOr, dAndV, dOrV, dNotV, dIfE, dCons, dNil, dLst, dTup, dFrz, dNeg, dChain, dIx, dIxS, dCa, dIsi, dIsi2, dAsg, dgName, dgTup, dgCons, dgNil, dwSeq, dwTup, dwRng1, dwRng2, dwEnum, dwZip, zipD_map, eqv_strS, plnL_T, frzL_T, dListOf, dIsN, dNotN, tN, dCat, dSl, dNoPart, dPart, dFor, dSetIx, dApp, dCall, dCallK, dPar, dOrT, dAndT, dYes, bodyE, keepPs, keepP, addK, subK, mulK, fdivK, modK, powK, ltK, leK, gtK, geK, eqK, neK, isK, isNotK, isNone, ixK, lenK, maxK, minK, absK, intK, strK, isIn_int, isIn_bool, isIn_list, isIn_tuple, isIn_str, truD, DL.T.frz, DL.T.pln, frzL, plnL, List.map_cons, List.map_nil, List.length_cons, List.length_nil, List.replicate_succ, List.replicate_zero, List.cons_append, List.nil_append, List.append_nil, List.getElem?_cons_zero, List.getElem?_cons_succ, List.getElem?_nil, List.set_cons_zero, List.set_cons_succ, List.set_nil, atI_0, atI_1, atI_2, atI_3, atI_4, ixN_0, ixN_1, ixN_2, plnL_dats, frzL_dats, allK_map, anyK_map, sumK_map, eqv_int, eqOk_int, eqOk_none, eqOk_bool, eqOk_str, bkOk, putBack, adr, pick, List.getD_cons_zero, List.getD_cons_succ, redat, wipeD, true_and, and_true, if_true, if_false, ite_true, ite_false, Bool.true_and, Bool.and_true, Bool.false_and, Bool.not_true, Bool.not_false, Option.getD_some, sp_law_till, Int.zero_add]
    refine ⟨by decide, ns, _, hns, by omega, by omega, rfl, fun a x y t0 => ?_⟩
    simp only [dSeq, dNext, dIf, dRet, dRetN, dSet, dDrop, dC, dVar, dMv, dOp, dTest, dTru, dNot, dAnd, dOr, dAndV, dOrV, dNotV, dIfE, dCons, dNil, dLst, dTup, dFrz, dNeg, dChain, dIx, dIxS, dCa, dIsi, dIsi2, dAsg, dgName, dgTup, dgCons, dgNil, dwSeq, dwTup, dwRng1, dwRng2, dwEnum, dwZip, zipD_map, eqv_strS, plnL_T, frzL_T, dListOf, dIsN, dNotN, tN, dCat, dSl, dNoPart, dPart, dFor, dSetIx, dApp, dCall, dCallK, dPar, dOrT, dAndT, dYes, bodyE, keepPs, keepP, addK, subK, mulK, fdivK, modK, powK, ltK, leK, gtK, geK, eqK, neK, isK, isNotK, isNone, ixK, lenK, maxK, minK, absK, intK, strK, isIn_int, isIn_bool, isIn_list, isIn_tuple, isIn_str, truD, DL.T.frz, DL.T.pln, frzL, plnL, List.map_cons, List.map_nil, List.length_cons, List.length_nil, List.replicate_succ, List.replicate_zero, List.cons_append, List.nil_append, List.append_nil, List.getElem?_cons_zero, List.getElem?_cons_succ, List.getElem?_nil, List.set_cons_zero, List.set_cons_succ, List.set_nil, atI_0, atI_1, atI_2, atI_3, atI_4, ixN_0, ixN_1, ixN_2, plnL_dats, frzL_dats, allK_map, anyK_map, sumK_map, eqv_int, eqOk_int, eqOk_none, eqOk_bool, eqOk_str, bkOk, putBack, adr, pick, List.getD_cons_zero, List.getD_cons_succ, redat, wipeD, true_and, and_true, if_true, if_false, ite_true, ite_false, Bool.true_and, Bool.and_true, Bool.false_and, Bool.not_true, Bool.not_false, Option.getD_some, till, sp_law_market]
    refine ⟨by decide, a, 0, x, y, 0, rfl, t0, by omega, fun m x1 y1 c1 hm t1 => ?_⟩
    have hl4 := hm.g4
    have hl1 := hm.g1
    have hd6 := hm.d6
    simp only [dSeq, dNext, dIf, dRet, dRetN, dSet, dDrop, dC, dVar, dMv, dOp, dTest, dTru, dNot, dAnd, dOr, dAndV, dOrV, dNotV, dIfE, dCons, dNil, dLst, dTup, dFrz, dNeg, dChain, dIx, dIxS, dCa, dIsi, dIsi2, dAsg, dgName, dgTup, dgCons, dgNil, dwSeq, dwTup, dwRng1, dwRng2, dwEnum, dwZip, zipD_map, eqv_strS, plnL_T, frzL_T, dListOf, dIsN, dNotN, tN, dCat, dSl, dNoPart, dPart, dFor, dSetIx, dApp, dCall, dCallK, dPar, dOrT, dAndT, dYes, bodyE, keepPs, keepP, addK, subK, mulK, fdivK, modK, powK, ltK, leK, gtK, geK, eqK, neK, isK, isNotK, isNone, ixK, lenK, maxK, minK, absK, intK, strK, isIn_int, isIn_bool, isIn_list, isIn_tuple, isIn_str, truD, DL.T.frz, DL.T.pln, frzL, plnL, List.map_cons, List.map_nil, List.length_cons, List.length_nil, List.replicate_succ, List.replicate_zero, List.cons_append, List.nil_append, List.append_nil, List.getElem?_cons_zero, List.getElem?_cons_succ, List.getElem?_nil, List.set_cons_zero, List.set_cons_succ, List.set_nil, atI_0, atI_1, atI_2, atI_3, atI_4, ixN_0, ixN_1, ixN_2, plnL_dats, frzL_dats, allK_map, anyK_map, sumK_map, eqv_int, eqOk_int, eqOk_none, eqOk_bool, eqOk_str, bkOk, putBack, adr, pick, List.getD_cons_zero, List.getD_cons_succ, redat, wipeD, true_and, and_true, if_true, if_false, ite_true, ite_false, Bool.true_and, Bool.and_true, Bool.false_and, Bool.not_true, Bool.not_false, Option.getD_some, till, encM, List.length_map, Int.toNat_natCast]
    refine ⟨by decide, by decide, by decide, by omega, by omega, ?_⟩
    refine for_inv (fun i S => ∃ x y c s6 s7 s8 s9 s10 s11 s12 s13 s14, TillB (200 + 300 * (i : Int)) x y c ∧ S = [some (.dat (.list (ns.map .int))), some (.dat (.int k)), some (till a x y c), some (.dat (encM m)), some (.dat (.list (m.goods.map encG))), some (.dat (.list (m.days.map encD))), s6, s7, s8, s9, s10, s11, s12, s13, s14]) _ 0 _ ?_ ⟨x1, y1, c1, s6, s7, s8, s9, s10, s11, s12, s13, s14, t1.mono (by omega), rfl⟩ ?_
    · rintro i d S hd ⟨x, y, c, s6, s7, s8, s9, s10, s11, s12, s13, s14, ht, rfl⟩ N2 hN2
      obtain ⟨hi, rfl⟩ := get_rngD hd
      simp only [Nat.zero_add, Int.zero_add] at ht hN2 ⊢
      simp only [dSeq, dNext, dIf, dRet, dRetN, dSet, dDrop, dC, dVar, dMv, dOp, dTest, dTru, dNot, dAnd, dOr, dAndV, dOrV, dNotV, dIfE, dCons, dNil, dLst, dTup, dFrz, dNeg, dChain, dIx, dIxS, dCa, dIsi, dIsi2, dAsg, dgName, dgTup, dgCons, dgNil, dwSeq, dwTup, dwRng1, dwRng2, dwEnum, dwZip, zipD_map, eqv_strS, plnL_T, frzL_T, dListOf, dIsN, dNotN, tN, dCat, dSl, dNoPart, dPart, dFor, dSetIx, dApp, dCall, dCallK, dPar, dOrT, dAndT, dYes, bodyE, keepPs, keepP, addK, subK, mulK, fdivK, modK, powK, ltK, leK, gtK, geK, eqK, neK, isK, isNotK, isNone, ixK, lenK, maxK, minK, absK, intK, strK, isIn_int, isIn_bool, isIn_list, isIn_tuple, isIn_str, truD, DL.T.frz, DL.T.pln, frzL, plnL, List.map_cons, List.map_nil, List.length_cons, List.length_nil, List.replicate_succ, List.replicate_zero, List.cons_append, List.nil_append, List.append_nil, List.getElem?_cons_zero, List.getElem?_cons_succ, List.getElem?_nil, List.set_cons_zero, List.set_cons_succ, List.set_nil, atI_0, atI_1, atI_2, atI_3, atI_4, ixN_0, ixN_1, ixN_2, plnL_dats, frzL_dats, allK_map, anyK_map, sumK_map, eqv_int, eqOk_int, eqOk_none, eqOk_bool, eqOk_str, bkOk, putBack, adr, pick, List.getD_cons_zero, List.getD_cons_succ, redat, wipeD, true_and, and_true, if_true, if_false, ite_true, ite_false, Bool.true_and, Bool.and_true, Bool.false_and, Bool.not_true, Bool.not_false, Option.getD_some, till]
      refine ⟨by decide, by decide, by decide, ?_⟩
      refine for_inv (fun j S => ∃ x y c s7 s8 s9 s10 s11 s12 s13 s14, TillB (200 + 300 * (i : Int) + 60 * (j : Int)) x y c ∧ S = [some (.dat (.list (ns.map .int))), some (.dat (.int k)), some (till a x y c), some (.dat (encM m)), some (.dat (.list (m.goods.map encG))), some (.dat (.list (m.days.map encD))), some (.dat (.int i)), s7, s8, s9, s10, s11, s12, s13, s14]) _ 0 _ ?_ ⟨x, y, c, s7, s8, s9, s10, s11, s12, s13, s14, ht.mono (by omega), rfl⟩ ?_
      · rintro j d S hd ⟨x, y, c, s7, s8, s9, s10, s11, s12, s13, s14, ht, rfl⟩ N3 hN3
        obtain ⟨hj, rfl⟩ := get_rngD hd
        have hj4 : j < 4 := by have e : Int.toNat 4 = 4 := rfl; omega
        simp only [Nat.zero_add, Int.zero_add] at ht hN3 ⊢
        simp only [dSeq, dNext, dIf, dRet, dRetN, dSet, dDrop, dC, dVar, dMv, dOp, dTest, dTru, dNot, dAnd, dOr, dAndV, dOrV, dNotV, dIfE, dCons, dNil, dLst, dTup, dFrz, dNeg, dChain, dIx, dIxS, dCa, dIsi, dIsi2, dAsg, dgName, dgTup, dgCons, dgNil, dwSeq, dwTup, dwRng1, dwRng2, dwEnum, dwZip, zipD_map, eqv_strS, plnL_T, frzL_T, dListOf, dIsN, dNotN, tN, dCat, dSl, dNoPart, dPart, dFor, dSetIx, dApp, dCall, dCallK, dPar, dOrT, dAndT, dYes, bodyE, keepPs, keepP, addK, subK, mulK, fdivK, modK, powK, ltK, leK, gtK, geK, eqK, neK, isK, isNotK, isNone, ixK, lenK, maxK, minK, absK, intK, strK, isIn_int, isIn_bool, isIn_list, isIn_tuple, isIn_str, truD, DL.T.frz, DL.T.pln, frzL, plnL, List.map_cons, List.map_nil, List.length_cons, List.length_nil, List.replicate_succ, List.replicate_zero, List.cons_append, List.nil_append, List.append_nil, List.getElem?_cons_zero, List.getElem?_cons_succ, List.getElem?_nil, List.set_cons_zero, List.set_cons_succ, List.set_nil, atI_0, atI_1, atI_2, atI_3, atI_4, ixN_0, ixN_1, ixN_2, plnL_dats, frzL_dats, allK_map, anyK_map, sumK_map, eqv_int, eqOk_int, eqOk_none, eqOk_bool, eqOk_str, bkOk, putBack, adr, pick, List.getD_cons_zero, List.getD_cons_succ, redat, wipeD, true_and, and_true, if_true, if_false, ite_true, ite_false, Bool.true_and, Bool.and_true, Bool.false_and, Bool.not_true, Bool.not_false, Option.getD_some, till, sp_law_pull]
        refine ⟨by decide, a, 200 + 300 * i + 60 * j, x, y, c, 5, rfl, ht, by omega, by omega, by omega, fun r2 x2 y2 c2 r20 r21 t2 => ?_⟩
        simp only [dSeq, dNext, dIf, dRet, dRetN, dSet, dDrop, dC, dVar, dMv, dOp, dTest, dTru, dNot, dAnd, dOr, dAndV, dOrV, dNotV, dIfE, dCons, dNil, dLst, dTup, dFrz, dNeg, dChain, dIx, dIxS, dCa, dIsi, dIsi2, dAsg, dgName, dgTup, dgCons, dgNil, dwSeq, dwTup, dwRng1, dwRng2, dwEnum, dwZip, zipD_map, eqv_strS, plnL_T, frzL_T, dListOf, dIsN, dNotN, tN, dCat, dSl, dNoPart, dPart, dFor, dSetIx, dApp, dCall, dCallK, dPar, dOrT, dAndT, dYes, bodyE, keepPs, keepP, addK, subK, mulK, fdivK, modK, powK, ltK, leK, gtK, geK, eqK, neK, isK, isNotK, isNone, ixK, lenK, maxK, minK, absK, intK, strK, isIn_int, isIn_bool, isIn_list, isIn_tuple, isIn_str, truD, DL.T.frz, DL.T.pln, frzL, plnL, List.map_cons, List.map_nil, List.length_cons, List.length_nil, List.replicate_succ, List.replicate_zero, List.cons_append, List.nil_append, List.append_nil, List.getElem?_cons_zero, List.getElem?_cons_succ, List.getElem?_nil, List.set_cons_zero, List.set_cons_succ, List.set_nil, atI_0, atI_1, atI_2, atI_3, atI_4, ixN_0, ixN_1, ixN_2, plnL_dats, frzL_dats, allK_map, anyK_map, sumK_map, eqv_int, eqOk_int, eqOk_none, eqOk_bool, eqOk_str, bkOk, putBack, adr, pick, List.getD_cons_zero, List.getD_cons_succ, redat, wipeD, true_and, and_true, if_true, if_false, ite_true, ite_false, Bool.true_and, Bool.and_true, Bool.false_and, Bool.not_true, Bool.not_false, Option.getD_some, till]
        refine ⟨by decide, a, 200 + 300 * i + 60 * j + 1, x2, y2, c2, _, rfl, t2, by omega, by decide, by decide, fun r3 x3 y3 c3 r30 r31 t3 => ?_⟩
        simp only [dSeq, dNext, dIf, dRet, dRetN, dSet, dDrop, dC, dVar, dMv, dOp, dTest, dTru, dNot, dAnd, dOr, dAndV, dOrV, dNotV, dIfE, dCons, dNil, dLst, dTup, dFrz, dNeg, dChain, dIx, dIxS, dCa, dIsi, dIsi2, dAsg, dgName, dgTup, dgCons, dgNil, dwSeq, dwTup, dwRng1, dwRng2, dwEnum, dwZip, zipD_map, eqv_strS, plnL_T, frzL_T, dListOf, dIsN, dNotN, tN, dCat, dSl, dNoPart, dPart, dFor, dSetIx, dApp, dCall, dCallK, dPar, dOrT, dAndT, dYes, bodyE, keepPs, keepP, addK, subK, mulK, fdivK, modK, powK, ltK, leK, gtK, geK, eqK, neK, isK, isNotK, isNone, ixK, lenK, maxK, minK, absK, intK, strK, isIn_int, isIn_bool, isIn_list, isIn_tuple, isIn_str, truD, DL.T.frz, DL.T.pln, frzL, plnL, List.map_cons, List.map_nil, List.length_cons, List.length_nil, List.replicate_succ, List.replicate_zero, List.cons_append, List.nil_append, List.append_nil, List.getElem?_cons_zero, List.getElem?_cons_succ, List.getElem?_nil, List.set_cons_zero, List.set_cons_succ, List.set_nil, atI_0, atI_1, atI_2, atI_3, atI_4, ixN_0, ixN_1, ixN_2, plnL_dats, frzL_dats, allK_map, anyK_map, sumK_map, eqv_int, eqOk_int, eqOk_none, eqOk_bool, eqOk_str, bkOk, putBack, adr, pick, List.getD_cons_zero, List.getD_cons_succ, redat, wipeD, true_and, and_true, if_true, if_false, ite_true, ite_false, Bool.true_and, Bool.and_true, Bool.false_and, Bool.not_true, Bool.not_false, Option.getD_some, till]
        refine ⟨by decide, a, 200 + 300 * i + 60 * j + 1 + 1, x3, y3, c3, _, rfl, t3, by omega, by decide, by decide, fun r4 x4 y4 c4 r40 r41 t4 => ?_⟩
        obtain ⟨R, hR, R1⟩ : ∃ R : Nat, atI [PyData.int 0, .int r2, .int r3, .int r4] (j : Int) = some (.int R) ∧ R ≤ 10 ^ 14 := by
          have e6 : Int.toNat 6 = 6 := rfl
          have e14 : Int.toNat 14 = 14 := rfl
          rw [e6] at r31
          rw [e14] at r41
          obtain ⟨q2, rfl⟩ := Int.eq_ofNat_of_zero_le r20
          obtain ⟨q3, rfl⟩ := Int.eq_ofNat_of_zero_le r30
          obtain ⟨q4, rfl⟩ := Int.eq_ofNat_of_zero_le r40
          have : j = 0 ∨ j = 1 ∨ j = 2 ∨ j = 3 := by omega
          rcases this with rfl | rfl | rfl | rfl
          · exact ⟨0, atI_0 _ _, by omega⟩
          · exact ⟨q2, atI_1 _ _ _, by omega⟩
          · exact ⟨q3, atI_2 _ _ _ _, by omega⟩
          · exact ⟨q4, atI_3 _ _ _ _ _, by omega⟩
        have hbi : m.days[i]? = some m.days[i] := List.getElem?_eq_getElem hi
        have wm : CMulW (m.days.length : Int) (R : Int) := mul_ok 10 60 (by omega) (by omega) (by omega) (by omega)
        simp only [dSeq, dNext, dIf, dRet, dRetN, dSet, dDrop, dC, dVar, dMv, dOp, dTest, dTru, dNot, dAnd, dOr, dAndV, dOrV, dNotV, dIfE, dCons, dNil, dLst, dTup, dFrz, dNeg, dChain, dIx, dIxS, dCa, dIsi, dIsi2, dAsg, dgName, dgTup, dgCons, dgNil, dwSeq, dwTup, dwRng1, dwRng2, dwEnum, dwZip, zipD_map, eqv_strS, plnL_T, frzL_T, dListOf, dIsN, dNotN, tN, dCat, dSl, dNoPart, dPart, dFor, dSetIx, dApp, dCall, dCallK, dPar, dOrT, dAndT, dYes, bodyE, keepPs, keepP, addK, subK, mulK, fdivK, modK, powK, ltK, leK, gtK, geK, eqK, neK, isK, isNotK, isNone, ixK, lenK, maxK, minK, absK, intK, strK, isIn_int, isIn_bool, isIn_list, isIn_tuple, isIn_str, truD, DL.T.frz, DL.T.pln, frzL, plnL, List.map_cons, List.map_nil, List.length_cons, List.length_nil, List.replicate_succ, List.replicate_zero, List.cons_append, List.nil_append, List.append_nil, List.getElem?_cons_zero, List.getElem?_cons_succ, List.getElem?_nil, List.set_cons_zero, List.set_cons_succ, List.set_nil, atI_0, atI_1, atI_2, atI_3, atI_4, ixN_0, ixN_1, ixN_2, plnL_dats, frzL_dats, allK_map, anyK_map, sumK_map, eqv_int, eqOk_int, eqOk_none, eqOk_bool, eqOk_str, bkOk, putBack, adr, pick, List.getD_cons_zero, List.getD_cons_succ, redat, wipeD, true_and, and_true, if_true, if_false, ite_true, ite_false, Bool.true_and, Bool.and_true, Bool.false_and, Bool.not_true, Bool.not_false, Option.getD_some, till, hR, atI_nat', List.getElem?_map, hbi, Option.map_some, List.length_map, sp_law_tags]
        refine ⟨sz (by decide), fun p1 => ⟨by decide, wm, by decide, a, 200 + 300 * i + 60 * j + 1 + 1 + 1, x4, y4, c4, m.days[i], m.goods.length, rfl, t4, by omega, hl4, fun bs hbs => hm.ds bs (List.mem_of_getElem? (by rw [hbi, hbs])), fun ps x5 y5 c5 p2 hpl hpb t5 => ?_⟩⟩
        have hnum : num 6 4 (.list [encM m, .list (ps.map .int)]) = true := pair_numB (num_encM hm) (ints_numB (by omega) hpb)
        have htk : takeOf m ps i = takeD m.days[i] ps := by simp only [takeOf, hbi]
        have hlT : lensOk 6 (encO (takeD m.days[i] ps)) = true := by cases takeD m.days[i] ps <;> rfl
        have hlTT : lensOk 6 (.list [encO (takeD m.days[i] ps), encO (takeD m.days[i] ps)]) = true := by cases takeD m.days[i] ps <;> rfl
        simp only [dSeq, dNext, dIf, dRet, dRetN, dSet, dDrop, dC, dVar, dMv, dOp, dTest, dTru, dNot, dAnd, dOr, dAndV, dOrV, dNotV, dIfE, dCons, dNil, dLst, dTup, dFrz, dNeg, dChain, dIx, dIxS, dCa, dIsi, dIsi2, dAsg, dgName, dgTup, dgCons, dgNil, dwSeq, dwTup, dwRng1, dwRng2, dwEnum, dwZip, zipD_map, eqv_strS, plnL_T, frzL_T, dListOf, dIsN, dNotN, tN, dCat, dSl, dNoPart, dPart, dFor, dSetIx, dApp, dCall, dCallK, dPar, dOrT, dAndT, dYes, bodyE, keepPs, keepP, addK, subK, mulK, fdivK, modK, powK, ltK, leK, gtK, geK, eqK, neK, isK, isNotK, isNone, ixK, lenK, maxK, minK, absK, intK, strK, isIn_int, isIn_bool, isIn_list, isIn_tuple, isIn_str, truD, DL.T.frz, DL.T.pln, frzL, plnL, List.map_cons, List.map_nil, List.length_cons, List.length_nil, List.replicate_succ, List.replicate_zero, List.cons_append, List.nil_append, List.append_nil, List.getElem?_cons_zero, List.getElem?_cons_succ, List.getElem?_nil, List.set_cons_zero, List.set_cons_succ, List.set_nil, atI_0, atI_1, atI_2, atI_3, atI_4, ixN_0, ixN_1, ixN_2, plnL_dats, frzL_dats, allK_map, anyK_map, sumK_map, eqv_int, eqOk_int, eqOk_none, eqOk_bool, eqOk_str, bkOk, putBack, adr, pick, List.getD_cons_zero, List.getD_cons_succ, redat, wipeD, true_and, and_true, if_true, if_false, ite_true, ite_false, Bool.true_and, Bool.and_true, Bool.false_and, Bool.not_true, Bool.not_false, Option.getD_some, till, sp_law_take]
        refine ⟨by decide, sz (by decide), fun p3 => repr_ok 6 4 hnum rfl (by decide) (by decide) _ ?_⟩
        refine ⟨by decide, m.days[i], ps, rfl, by omega, fun bs hbs => ((hm.ds bs (List.mem_of_getElem? (by rw [hbi, hbs]))).1).trans hpl.symm, ?_⟩
        simp only [dSeq, dNext, dIf, dRet, dRetN, dSet, dDrop, dC, dVar, dMv, dOp, dTest, dTru, dNot, dAnd, dOr, dAndV, dOrV, dNotV, dIfE, dCons, dNil, dLst, dTup, dFrz, dNeg, dChain, dIx, dIxS, dCa, dIsi, dIsi2, dAsg, dgName, dgTup, dgCons, dgNil, dwSeq, dwTup, dwRng1, dwRng2, dwEnum, dwZip, zipD_map, eqv_strS, plnL_T, frzL_T, dListOf, dIsN, dNotN, tN, dCat, dSl, dNoPart, dPart, dFor, dSetIx, dApp, dCall, dCallK, dPar, dOrT, dAndT, dYes, bodyE, keepPs, keepP, addK, subK, mulK, fdivK, modK, powK, ltK, leK, gtK, geK, eqK, neK, isK, isNotK, isNone, ixK, lenK, maxK, minK, absK, intK, strK, isIn_int, isIn_bool, isIn_list, isIn_tuple, isIn_str, truD, DL.T.frz, DL.T.pln, frzL, plnL, List.map_cons, List.map_nil, List.length_cons, List.length_nil, List.replicate_succ, List.replicate_zero, List.cons_append, List.nil_append, List.append_nil, List.getElem?_cons_zero, List.getElem?_cons_succ, List.getElem?_nil, List.set_cons_zero, List.set_cons_succ, List.set_nil, atI_0, atI_1, atI_2, atI_3, atI_4, ixN_0, ixN_1, ixN_2, plnL_dats, frzL_dats, allK_map, anyK_map, sumK_map, eqv_int, eqOk_int, eqOk_none, eqOk_bool, eqOk_str, bkOk, putBack, adr, pick, List.getD_cons_zero, List.getD_cons_succ, redat, wipeD, true_and, and_true, if_true, if_false, ite_true, ite_false, Bool.true_and, Bool.and_true, Bool.false_and, Bool.not_true, Bool.not_false, Option.getD_some, till, sp_take_of]
        refine ⟨by decide, m, ps, i, R, hm, hi, rfl, hpl, hpb, ?_⟩
        simp only [htk, dSeq, dNext, dIf, dRet, dRetN, dSet, dDrop, dC, dVar, dMv, dOp, dTest, dTru, dNot, dAnd, dOr, dAndV, dOrV, dNotV, dIfE, dCons, dNil, dLst, dTup, dFrz, dNeg, dChain, dIx, dIxS, dCa, dIsi, dIsi2, dAsg, dgName, dgTup, dgCons, dgNil, dwSeq, dwTup, dwRng1, dwRng2, dwEnum, dwZip, zipD_map, eqv_strS, plnL_T, frzL_T, dListOf, dIsN, dNotN, tN, dCat, dSl, dNoPart, dPart, dFor, dSetIx, dApp, dCall, dCallK, dPar, dOrT, dAndT, dYes, bodyE, keepPs, keepP, addK, subK, mulK, fdivK, modK, powK, ltK, leK, gtK, geK, eqK, neK, isK, isNotK, isNone, ixK, lenK, maxK, minK, absK, intK, strK, isIn_int, isIn_bool, isIn_list, isIn_tuple, isIn_str, truD, DL.T.frz, DL.T.pln, frzL, plnL, List.map_cons, List.map_nil, List.length_cons, List.length_nil, List.replicate_succ, List.replicate_zero, List.cons_append, List.nil_append, List.append_nil, List.getElem?_cons_zero, List.getElem?_cons_succ, List.getElem?_nil, List.set_cons_zero, List.set_cons_succ, List.set_nil, atI_0, atI_1, atI_2, atI_3, atI_4, ixN_0, ixN_1, ixN_2, plnL_dats, frzL_dats, allK_map, anyK_map, sumK_map, eqv_int, eqOk_int, eqOk_none, eqOk_bool, eqOk_str, bkOk, putBack, adr, pick, List.getD_cons_zero, List.getD_cons_succ, redat, wipeD, true_and, and_true, if_true, if_false, ite_true, ite_false, Bool.true_and, Bool.and_true, Bool.false_and, Bool.not_true, Bool.not_false, Option.getD_some, till, sr_law_same]
        refine ⟨_, rfl, hlT, ?_⟩
        rw [if_neg (by decide)]
        by_cases h0 : (i : Int) = 0
        · obtain rfl : i = 0 := by omega
          simp only [h0, decide_true, dSeq, dNext, dIf, dRet, dRetN, dSet, dDrop, dC, dVar, dMv, dOp, dTest, dTru, dNot, dAnd, dOr, dAndV, dOrV, dNotV, dIfE, dCons, dNil, dLst, dTup, dFrz, dNeg, dChain, dIx, dIxS, dCa, dIsi, dIsi2, dAsg, dgName, dgTup, dgCons, dgNil, dwSeq, dwTup, dwRng1, dwRng2, dwEnum, dwZip, zipD_map, eqv_strS, plnL_T, frzL_T, dListOf, dIsN, dNotN, tN, dCat, dSl, dNoPart, dPart, dFor, dSetIx, dApp, dCall, dCallK, dPar, dOrT, dAndT, dYes, bodyE, keepPs, keepP, addK, subK, mulK, fdivK, modK, powK, ltK, leK, gtK, geK, eqK, neK, isK, isNotK, isNone, ixK, lenK, maxK, minK, absK, intK, strK, isIn_int, isIn_bool, isIn_list, isIn_tuple, isIn_str, truD, DL.T.frz, DL.T.pln, frzL, plnL, List.map_cons, List.map_nil, List.length_cons, List.length_nil, List.replicate_succ, List.replicate_zero, List.cons_append, List.nil_append, List.append_nil, List.getElem?_cons_zero, List.getElem?_cons_succ, List.getElem?_nil, List.set_cons_zero, List.set_cons_succ, List.set_nil, atI_0, atI_1, atI_2, atI_3, atI_4, ixN_0, ixN_1, ixN_2, plnL_dats, frzL_dats, allK_map, anyK_map, sumK_map, eqv_int, eqOk_int, eqOk_none, eqOk_bool, eqOk_str, bkOk, putBack, adr, pick, List.getD_cons_zero, List.getD_cons_succ, redat, wipeD, true_and, and_true, if_true, if_false, ite_true, ite_false, Bool.true_and, Bool.and_true, Bool.false_and, Bool.not_true, Bool.not_false, Option.getD_some, till, Bool.false_eq_true]
          refine ⟨m, ps, 0, 0, hm, hi, by simp, hpl, hpb, ?_⟩
          refine ⟨m, ps, 0, 0, hm, hi, by simp, hpl, hpb, ?_⟩
          simp only [htk, dSeq, dNext, dIf, dRet, dRetN, dSet, dDrop, dC, dVar, dMv, dOp, dTest, dTru, dNot, dAnd, dOr, dAndV, dOrV, dNotV, dIfE, dCons, dNil, dLst, dTup, dFrz, dNeg, dChain, dIx, dIxS, dCa, dIsi, dIsi2, dAsg, dgName, dgTup, dgCons, dgNil, dwSeq, dwTup, dwRng1, dwRng2, dwEnum, dwZip, zipD_map, eqv_strS, plnL_T, frzL_T, dListOf, dIsN, dNotN, tN, dCat, dSl, dNoPart, dPart, dFor, dSetIx, dApp, dCall, dCallK, dPar, dOrT, dAndT, dYes, bodyE, keepPs, keepP, addK, subK, mulK, fdivK, modK, powK, ltK, leK, gtK, geK, eqK, neK, isK, isNotK, isNone, ixK, lenK, maxK, minK, absK, intK, strK, isIn_int, isIn_bool, isIn_list, isIn_tuple, isIn_str, truD, DL.T.frz, DL.T.pln, frzL, plnL, List.map_cons, List.map_nil, List.length_cons, List.length_nil, List.replicate_succ, List.replicate_zero, List.cons_append, List.nil_append, List.append_nil, List.getElem?_cons_zero, List.getElem?_cons_succ, List.getElem?_nil, List.set_cons_zero, List.set_cons_succ, List.set_nil, atI_0, atI_1, atI_2, atI_3, atI_4, ixN_0, ixN_1, ixN_2, plnL_dats, frzL_dats, allK_map, anyK_map, sumK_map, eqv_int, eqOk_int, eqOk_none, eqOk_bool, eqOk_str, bkOk, putBack, adr, pick, List.getD_cons_zero, List.getD_cons_succ, redat, wipeD, true_and, and_true, if_true, if_false, ite_true, ite_false, Bool.true_and, Bool.and_true, Bool.false_and, Bool.not_true, Bool.not_false, Option.getD_some]
          refine ⟨sz (by decide), fun p6 => ⟨by decide, sz (by decide), fun p7 => ⟨_, rfl, hlTT, ?_⟩⟩⟩
          intro p8
          refine ⟨m, ps, 0, R, hm, hi, by simp, hpl, hpb, ?_⟩
          simp only [htk]
          refine ⟨by decide, _, rfl, hlT, ?_⟩
          refine ⟨sz (by decide), fun p10 => repr_ok 6 4 hnum rfl (by decide) (by decide) _ ?_⟩
          simp only [dSeq, dNext, dIf, dRet, dRetN, dSet, dDrop, dC, dVar, dMv, dOp, dTest, dTru, dNot, dAnd, dOr, dAndV, dOrV, dNotV, dIfE, dCons, dNil, dLst, dTup, dFrz, dNeg, dChain, dIx, dIxS, dCa, dIsi, dIsi2, dAsg, dgName, dgTup, dgCons, dgNil, dwSeq, dwTup, dwRng1, dwRng2, dwEnum, dwZip, zipD_map, eqv_strS, plnL_T, frzL_T, dListOf, dIsN, dNotN, tN, dCat, dSl, dNoPart, dPart, dFor, dSetIx, dApp, dCall, dCallK, dPar, dOrT, dAndT, dYes, bodyE, keepPs, keepP, addK, subK, mulK, fdivK, modK, powK, ltK, leK, gtK, geK, eqK, neK, isK, isNotK, isNone, ixK, lenK, maxK, minK, absK, intK, strK, isIn_int, isIn_bool, isIn_list, isIn_tuple, isIn_str, truD, DL.T.frz, DL.T.pln, frzL, plnL, List.map_cons, List.map_nil, List.length_cons, List.length_nil, List.replicate_succ, List.replicate_zero, List.cons_append, List.nil_append, List.append_nil, List.getElem?_cons_zero, List.getElem?_cons_succ, List.getElem?_nil, List.set_cons_zero, List.set_cons_succ, List.set_nil, atI_0, atI_1, atI_2, atI_3, atI_4, ixN_0, ixN_1, ixN_2, plnL_dats, frzL_dats, allK_map, anyK_map, sumK_map, eqv_int, eqOk_int, eqOk_none, eqOk_bool, eqOk_str, bkOk, putBack, adr, pick, List.getD_cons_zero, List.getD_cons_succ, redat, wipeD, true_and, and_true, if_true, if_false, ite_true, ite_false, Bool.true_and, Bool.and_true, Bool.false_and, Bool.not_true, Bool.not_false, Option.getD_some, till, Bool.false_eq_true]
          exact hN3 _ ⟨x5, y5, c5, _, _, _, _, _, _, _, _, t5.mono (by omega), rfl⟩
        · simp only [h0, decide_false, dSeq, dNext, dIf, dRet, dRetN, dSet, dDrop, dC, dVar, dMv, dOp, dTest, dTru, dNot, dAnd, dOr, dAndV, dOrV, dNotV, dIfE, dCons, dNil, dLst, dTup, dFrz, dNeg, dChain, dIx, dIxS, dCa, dIsi, dIsi2, dAsg, dgName, dgTup, dgCons, dgNil, dwSeq, dwTup, dwRng1, dwRng2, dwEnum, dwZip, zipD_map, eqv_strS, plnL_T, frzL_T, dListOf, dIsN, dNotN, tN, dCat, dSl, dNoPart, dPart, dFor, dSetIx, dApp, dCall, dCallK, dPar, dOrT, dAndT, dYes, bodyE, keepPs, keepP, addK, subK, mulK, fdivK, modK, powK, ltK, leK, gtK, geK, eqK, neK, isK, isNotK, isNone, ixK, lenK, maxK, minK, absK, intK, strK, isIn_int, isIn_bool, isIn_list, isIn_tuple, isIn_str, truD, DL.T.frz, DL.T.pln, frzL, plnL, List.map_cons, List.map_nil, List.length_cons, List.length_nil, List.replicate_succ, List.replicate_zero, List.cons_append, List.nil_append, List.append_nil, List.getElem?_cons_zero, List.getElem?_cons_succ, List.getElem?_nil, List.set_cons_zero, List.set_cons_succ, List.set_nil, atI_0, atI_1, atI_2, atI_3, atI_4, ixN_0, ixN_1, ixN_2, plnL_dats, frzL_dats, allK_map, anyK_map, sumK_map, eqv_int, eqOk_int, eqOk_none, eqOk_bool, eqOk_str, bkOk, putBack, adr, pick, List.getD_cons_zero, List.getD_cons_succ, redat, wipeD, true_and, and_true, if_true, if_false, ite_true, ite_false, Bool.true_and, Bool.and_true, Bool.false_and, Bool.not_true, Bool.not_false, Option.getD_some, till, Bool.false_eq_true]
          intro p8
          refine ⟨m, ps, i, R, hm, hi, by simp, hpl, hpb, ?_⟩
          simp only [htk]
          refine ⟨by decide, _, rfl, hlT, ?_⟩
          refine ⟨sz (by decide), fun p10 => repr_ok 6 4 hnum rfl (by decide) (by decide) _ ?_⟩
          simp only [dSeq, dNext, dIf, dRet, dRetN, dSet, dDrop, dC, dVar, dMv, dOp, dTest, dTru, dNot, dAnd, dOr, dAndV, dOrV, dNotV, dIfE, dCons, dNil, dLst, dTup, dFrz, dNeg, dChain, dIx, dIxS, dCa, dIsi, dIsi2, dAsg, dgName, dgTup, dgCons, dgNil, dwSeq, dwTup, dwRng1, dwRng2, dwEnum, dwZip, zipD_map, eqv_strS, plnL_T, frzL_T, dListOf, dIsN, dNotN, tN, dCat, dSl, dNoPart, dPart, dFor, dSetIx, dApp, dCall, dCallK, dPar, dOrT, dAndT, dYes, bodyE, keepPs, keepP, addK, subK, mulK, fdivK, modK, powK, ltK, leK, gtK, geK, eqK, neK, isK, isNotK, isNone, ixK, lenK, maxK, minK, absK, intK, strK, isIn_int, isIn_bool, isIn_list, isIn_tuple, isIn_str, truD, DL.T.frz, DL.T.pln, frzL, plnL, List.map_cons, List.map_nil, List.length_cons, List.length_nil, List.replicate_succ, List.replicate_zero, List.cons_append, List.nil_append, List.append_nil, List.getElem?_cons_zero, List.getElem?_cons_succ, List.getElem?_nil, List.set_cons_zero, List.set_cons_succ, List.set_nil, atI_0, atI_1, atI_2, atI_3, atI_4, ixN_0, ixN_1, ixN_2, plnL_dats, frzL_dats, allK_map, anyK_map, sumK_map, eqv_int, eqOk_int, eqOk_none, eqOk_bool, eqOk_str, bkOk, putBack, adr, pick, List.getD_cons_zero, List.getD_cons_succ, redat, wipeD, true_and, and_true, if_true, if_false, ite_true, ite_false, Bool.true_and, Bool.and_true, Bool.false_and, Bool.not_true, Bool.not_false, Option.getD_some, till, Bool.false_eq_true]
          exact hN3 _ ⟨x5, y5, c5, _, _, _, _, _, _, _, _, t5.mono (by omega), rfl⟩
      · rintro S ⟨x, y, c, s7, s8, s9, s10, s11, s12, s13, s14, ht, rfl⟩
        rw [rngD_len] at ht
        have e : Int.toNat 4 = 4 := rfl
        rw [e] at ht
        exact hN2 _ ⟨x, y, c, _, _, _, _, _, _, _, _, _, ht.mono (by omega), rfl⟩
    · rintro S ⟨x, y, c, s6, s7, s8, s9, s10, s11, s12, s13, s14, ht, rfl⟩
      exact hN _ ⟨_, _, _, _, _, _, _, _, _, _, _, _, _, _, rfl⟩
  · rintro S ⟨s1, s2, s3, s4, s5, s6, s7, s8, s9, s10, s11, s12, s13, s14, rfl⟩
    simp only [dSeq, dNext, dIf, dRet, dRetN, dSet, dDrop, dC, dVar, dMv, dOp, dTest, dTru, dNot, dAnd, dOr, dAndV, dOrV, dNotV, dIfE, dCons, dNil, dLst, dTup, dFrz, dNeg, dChain, dIx, dIxS, dCa, dIsi, dIsi2, dAsg, dgName, dgTup, dgCons, dgNil, dwSeq, dwTup, dwRng1, dwRng2, dwEnum, dwZip, zipD_map, eqv_strS, plnL_T, frzL_T, dListOf, dIsN, dNotN, tN, dCat, dSl, dNoPart, dPart, dFor, dSetIx, dApp, dCall, dCallK, dPar, dOrT, dAndT, dYes, bodyE, keepPs, keepP, addK, subK, mulK, fdivK, modK, powK, ltK, leK, gtK, geK, eqK, neK, isK, isNotK, isNone, ixK, lenK, maxK, minK, absK, intK, strK, isIn_int, isIn_bool, isIn_list, isIn_tuple, isIn_str, truD, DL.T.frz, DL.T.pln, frzL, plnL, List.map_cons, List.map_nil, List.length_cons, List.length_nil, List.replicate_succ, List.replicate_zero, List.cons_append, List.nil_append, List.append_nil, List.getElem?_cons_zero, List.getElem?_cons_succ, List.getElem?_nil, List.set_cons_zero, List.set_cons_succ, List.set_nil, atI_0, atI_1, atI_2, atI_3, atI_4, ixN_0, ixN_1, ixN_2, plnL_dats, frzL_dats, allK_map, anyK_map, sumK_map, eqv_int, eqOk_int, eqOk_none, eqOk_bool, eqOk_str, bkOk, putBack, adr, pick, List.getD_cons_zero, List.getD_cons_succ, redat, wipeD, true_and, and_true, if_true, if_false, ite_true, ite_false, Bool.true_and, Bool.and_true, Bool.false_and, Bool.not_true, Bool.not_false, Option.getD_some, lawE]
set_option maxHeartbeats 8000000 in
theorem all_mk {P : Program} {w : World} {K : PySem.W.Frag} {h : Heap} {mg : Str → Option Value} {fa : Addr} (X : K.In h) (G : h.Ns mainGlobals mg) (hfa : mg "law" = some (.ref fa))
    {f_is_whole : Addr} {oc_is_whole kV_is_whole dc_is_whole pm_is_whole cd_is_whole ct_is_whole : Value} {od_is_whole an_is_whole : Option Addr} {sl_is_whole : Array (Option Value)} {t_is_whole : Addr} {o_is_whole : Obj} {its_is_whole : List Value} {m_is_whole : Nat} {f_is_list : Addr} {oc_is_list kV_is_list dc_is_list pm_is_list cd_is_list ct_is_list : Value} {od_is_list an_is_list : Option Addr} {sl_is_list : Array (Option Value)} {f_is_good : Addr} {oc_is_good kV_is_good dc_is_good pm_is_good cd_is_good ct_is_good : Value} {od_is_good an_is_good : Option Addr} {sl_is_good : Array (Option Value)} {f_is_goods : Addr} {oc_is_goods kV_is_goods dc_is_goods pm_is_goods cd_is_goods ct_is_goods : Value} {od_is_goods an_is_goods : Option Addr} {sl_is_goods : Array (Option Value)} {f_is_buyer : Addr} {oc_is_buyer kV_is_buyer dc_is_buyer pm_is_buyer cd_is_buyer ct_is_buyer : Value} {od_is_buyer an_is_buyer : Option Addr} {sl_is_buyer : Array (Option Value)} {f_is_market : Addr} {oc_is_market kV_is_market dc_is_market pm_is_market cd_is_market ct_is_market : Value} {od_is_market an_is_market : Option Addr} {sl_is_market : Array (Option Value)} {f_need_market : Addr} {oc_need_market kV_need_market dc_need_market pm_need_market cd_need_market ct_need_market : Value} {od_need_market an_need_market : Option Addr} {sl_need_market : Array (Option Value)} {f_is_prices : Addr} {oc_is_prices kV_is_prices dc_is_prices pm_is_prices cd_is_prices ct_is_prices : Value} {od_is_prices an_is_prices : Option Addr} {sl_is_prices : Array (Option Value)} {f_need_prices : Addr} {oc_need_prices kV_need_prices dc_need_prices pm_need_prices cd_need_prices ct_need_prices : Value} {od_need_prices an_need_prices : Option Addr} {sl_need_prices : Array (Option Value)} {f_need_day : Addr} {oc_need_day kV_need_day dc_need_day pm_need_day cd_need_day ct_need_day : Value} {od_need_day an_need_day : Option Addr} {sl_need_day : Array (Option Value)} {t_need_day : Addr} {o_need_day : Obj} {its_need_day : List Value} {m_need_day : Nat} {f_taken : Addr} {oc_taken kV_taken dc_taken pm_taken cd_taken ct_taken : Value} {od_taken an_taken : Option Addr} {sl_taken : Array (Option Value)} {f_buyer_of : Addr} {oc_buyer_of kV_buyer_of dc_buyer_of pm_buyer_of cd_buyer_of ct_buyer_of : Value} {od_buyer_of an_buyer_of : Option Addr} {sl_buyer_of : Array (Option Value)} {f_take_of : Addr} {oc_take_of dc_take_of pm_take_of cd_take_of ct_take_of : Value} {od_take_of an_take_of : Option Addr} {sl_take_of : Array (Option Value)} {q_take_of : Addr} {e_take_of_day : Value} {f_law_till : Addr} {oc_law_till kV_law_till dc_law_till pm_law_till cd_law_till ct_law_till : Value} {od_law_till an_law_till : Option Addr} {sl_law_till : Array (Option Value)} {f_law_pull : Addr} {oc_law_pull kV_law_pull dc_law_pull pm_law_pull cd_law_pull ct_law_pull : Value} {od_law_pull an_law_pull : Option Addr} {sl_law_pull : Array (Option Value)} {f_law_near : Addr} {oc_law_near kV_law_near dc_law_near pm_law_near cd_law_near ct_law_near : Value} {od_law_near an_law_near : Option Addr} {sl_law_near : Array (Option Value)} {f_law_buyer : Addr} {oc_law_buyer kV_law_buyer dc_law_buyer pm_law_buyer cd_law_buyer ct_law_buyer : Value} {od_law_buyer an_law_buyer : Option Addr} {sl_law_buyer : Array (Option Value)} {f_law_market : Addr} {oc_law_market kV_law_market dc_law_market pm_law_market cd_law_market ct_law_market : Value} {od_law_market an_law_market : Option Addr} {sl_law_market : Array (Option Value)} {f_law_take : Addr} {oc_law_take kV_law_take dc_law_take pm_law_take cd_law_take ct_law_take : Value} {od_law_take an_law_take : Option Addr} {sl_law_take : Array (Option Value)} {f_law_tags : Addr} {oc_law_tags kV_law_tags dc_law_tags pm_law_tags cd_law_tags ct_law_tags : Value} {od_law_tags an_law_tags : Option Addr} {sl_law_tags : Array (Option Value)} {f_law_same : Addr} {oc_law_same kV_law_same dc_law_same pm_law_same cd_law_same ct_law_same : Value} {od_law_same an_law_same : Option Addr} {sl_law_same : Array (Option Value)} {f_law : Addr} {oc_law kV_law dc_law pm_law cd_law ct_law : Value} {od_law an_law : Option Addr} {sl_law : Array (Option Value)} {vc_MOST_DAYS : Value} {vc_MOST_GOODS : Value} {vc_MOST_PRICE : Value} {vc_MOST_STEP : Value} {vc_MOST_WORTH : Value}
    (a_is_whole : PySem.W.nsIn K mainGlobals "is_whole" = some (some (.ref f_is_whole)))
    (l_is_whole : K.lookup f_is_whole = some ⟨oc_is_whole, od_is_whole, .func (PySem.W.fnOf "is_whole" "is_whole" (defArgs s_is_whole) (defBody s_is_whole) (defScope s_is_whole) (.ref t_is_whole) kV_is_whole dc_is_whole pm_is_whole an_is_whole cd_is_whole ct_is_whole), sl_is_whole⟩)
    (c_is_whole : PySem.W.codeIn K cd_is_whole "is_whole" = true)
    (k_is_whole : PySem.W.keepIn K (.ref f_is_whole) = true)
    (u_is_whole : K.lookup t_is_whole = some o_is_whole)
    (v_is_whole : o_is_whole.data = .seq its_is_whole.toArray m_is_whole) (w_is_whole : Vals [.non, .non] its_is_whole)
    (a_is_list : PySem.W.nsIn K mainGlobals "is_list" = some (some (.ref f_is_list)))
    (l_is_list : K.lookup f_is_list = some ⟨oc_is_list, od_is_list, .func (PySem.W.fnOf "is_list" "is_list" (defArgs s_is_list) (defBody s_is_list) (defScope s_is_list) .none kV_is_list dc_is_list pm_is_list an_is_list cd_is_list ct_is_list), sl_is_list⟩)
    (c_is_list : PySem.W.codeIn K cd_is_list "is_list" = true)
    (k_is_list : PySem.W.keepIn K (.ref f_is_list) = true)
    (a_is_good : PySem.W.nsIn K mainGlobals "is_good" = some (some (.ref f_is_good)))
    (l_is_good : K.lookup f_is_good = some ⟨oc_is_good, od_is_good, .func (PySem.W.fnOf "is_good" "is_good" (defArgs s_is_good) (defBody s_is_good) (defScope s_is_good) .none kV_is_good dc_is_good pm_is_good an_is_good cd_is_good ct_is_good), sl_is_good⟩)
    (c_is_good : PySem.W.codeIn K cd_is_good "is_good" = true)
    (k_is_good : PySem.W.keepIn K (.ref f_is_good) = true)
    (a_is_goods : PySem.W.nsIn K mainGlobals "is_goods" = some (some (.ref f_is_goods)))
    (l_is_goods : K.lookup f_is_goods = some ⟨oc_is_goods, od_is_goods, .func (PySem.W.fnOf "is_goods" "is_goods" (defArgs s_is_goods) (defBody s_is_goods) (defScope s_is_goods) .none kV_is_goods dc_is_goods pm_is_goods an_is_goods cd_is_goods ct_is_goods), sl_is_goods⟩)
    (c_is_goods : PySem.W.codeIn K cd_is_goods "is_goods" = true)
    (k_is_goods : PySem.W.keepIn K (.ref f_is_goods) = true)
    (a_is_buyer : PySem.W.nsIn K mainGlobals "is_buyer" = some (some (.ref f_is_buyer)))
    (l_is_buyer : K.lookup f_is_buyer = some ⟨oc_is_buyer, od_is_buyer, .func (PySem.W.fnOf "is_buyer" "is_buyer" (defArgs s_is_buyer) (defBody s_is_buyer) (defScope s_is_buyer) .none kV_is_buyer dc_is_buyer pm_is_buyer an_is_buyer cd_is_buyer ct_is_buyer), sl_is_buyer⟩)
    (c_is_buyer : PySem.W.codeIn K cd_is_buyer "is_buyer" = true)
    (k_is_buyer : PySem.W.keepIn K (.ref f_is_buyer) = true)
    (a_is_market : PySem.W.nsIn K mainGlobals "is_market" = some (some (.ref f_is_market)))
    (l_is_market : K.lookup f_is_market = some ⟨oc_is_market, od_is_market, .func (PySem.W.fnOf "is_market" "is_market" (defArgs s_is_market) (defBody s_is_market) (defScope s_is_market) .none kV_is_market dc_is_market pm_is_market an_is_market cd_is_market ct_is_market), sl_is_market⟩)
    (c_is_market : PySem.W.codeIn K cd_is_market "is_market" = true)
    (k_is_market : PySem.W.keepIn K (.ref f_is_market) = true)
    (a_need_market : PySem.W.nsIn K mainGlobals "need_market" = some (some (.ref f_need_market)))
    (l_need_market : K.lookup f_need_market = some ⟨oc_need_market, od_need_market, .func (PySem.W.fnOf "need_market" "need_market" (defArgs s_need_market) (defBody s_need_market) (defScope s_need_market) .none kV_need_market dc_need_market pm_need_market an_need_market cd_need_market ct_need_market), sl_need_market⟩)
    (c_need_market : PySem.W.codeIn K cd_need_market "need_market" = true)
    (k_need_market : PySem.W.keepIn K (.ref f_need_market) = true)
    (a_is_prices : PySem.W.nsIn K mainGlobals "is_prices" = some (some (.ref f_is_prices)))
    (l_is_prices : K.lookup f_is_prices = some ⟨oc_is_prices, od_is_prices, .func (PySem.W.fnOf "is_prices" "is_prices" (defArgs s_is_prices) (defBody s_is_prices) (defScope s_is_prices) .none kV_is_prices dc_is_prices pm_is_prices an_is_prices cd_is_prices ct_is_prices), sl_is_prices⟩)
    (c_is_prices : PySem.W.codeIn K cd_is_prices "is_prices" = true)
    (k_is_prices : PySem.W.keepIn K (.ref f_is_prices) = true)
    (a_need_prices : PySem.W.nsIn K mainGlobals "need_prices" = some (some (.ref f_need_prices)))
    (l_need_prices : K.lookup f_need_prices = some ⟨oc_need_prices, od_need_prices, .func (PySem.W.fnOf "need_prices" "need_prices" (defArgs s_need_prices) (defBody s_need_prices) (defScope s_need_prices) .none kV_need_prices dc_need_prices pm_need_prices an_need_prices cd_need_prices ct_need_prices), sl_need_prices⟩)
    (c_need_prices : PySem.W.codeIn K cd_need_prices "need_prices" = true)
    (k_need_prices : PySem.W.keepIn K (.ref f_need_prices) = true)
    (a_need_day : PySem.W.nsIn K mainGlobals "need_day" = some (some (.ref f_need_day)))
    (l_need_day : K.lookup f_need_day = some ⟨oc_need_day, od_need_day, .func (PySem.W.fnOf "need_day" "need_day" (defArgs s_need_day) (defBody s_need_day) (defScope s_need_day) (.ref t_need_day) kV_need_day dc_need_day pm_need_day an_need_day cd_need_day ct_need_day), sl_need_day⟩)
    (c_need_day : PySem.W.codeIn K cd_need_day "need_day" = true)
    (k_need_day : PySem.W.keepIn K (.ref f_need_day) = true)
    (u_need_day : K.lookup t_need_day = some o_need_day)
    (v_need_day : o_need_day.data = .seq its_need_day.toArray m_need_day) (w_need_day : Vals [.non] its_need_day)
    (a_taken : PySem.W.nsIn K mainGlobals "taken" = some (some (.ref f_taken)))
    (l_taken : K.lookup f_taken = some ⟨oc_taken, od_taken, .func (PySem.W.fnOf "taken" "taken" (defArgs s_taken) (defBody s_taken) (defScope s_taken) .none kV_taken dc_taken pm_taken an_taken cd_taken ct_taken), sl_taken⟩)
    (c_taken : PySem.W.codeIn K cd_taken "taken" = true)
    (k_taken : PySem.W.keepIn K (.ref f_taken) = true)
    (a_buyer_of : PySem.W.nsIn K mainGlobals "buyer_of" = some (some (.ref f_buyer_of)))
    (l_buyer_of : K.lookup f_buyer_of = some ⟨oc_buyer_of, od_buyer_of, .func (PySem.W.fnOf "buyer_of" "buyer_of" (defArgs s_buyer_of) (defBody s_buyer_of) (defScope s_buyer_of) .none kV_buyer_of dc_buyer_of pm_buyer_of an_buyer_of cd_buyer_of ct_buyer_of), sl_buyer_of⟩)
    (c_buyer_of : PySem.W.codeIn K cd_buyer_of "buyer_of" = true)
    (k_buyer_of : PySem.W.keepIn K (.ref f_buyer_of) = true)
    (a_take_of : PySem.W.nsIn K mainGlobals "take_of" = some (some (.ref f_take_of)))
    (l_take_of : K.lookup f_take_of = some ⟨oc_take_of, od_take_of, .func (PySem.W.fnOf "take_of" "take_of" (defArgs s_take_of) (defBody s_take_of) (defScope s_take_of) .none (.ref q_take_of) dc_take_of pm_take_of an_take_of cd_take_of ct_take_of), sl_take_of⟩)
    (c_take_of : PySem.W.codeIn K cd_take_of "take_of" = true)
    (k_take_of : PySem.W.keepIn K (.ref f_take_of) = true)
    (x_take_of_day : PySem.W.nsIn K q_take_of "day" = some (some e_take_of_day))
    (y_take_of_day : RelV (.int (0)) e_take_of_day)
    (a_law_till : PySem.W.nsIn K mainGlobals "_law_till" = some (some (.ref f_law_till)))
    (l_law_till : K.lookup f_law_till = some ⟨oc_law_till, od_law_till, .func (PySem.W.fnOf "_law_till" "_law_till" (defArgs s_law_till) (defBody s_law_till) (defScope s_law_till) .none kV_law_till dc_law_till pm_law_till an_law_till cd_law_till ct_law_till), sl_law_till⟩)
    (c_law_till : PySem.W.codeIn K cd_law_till "_law_till" = true)
    (k_law_till : PySem.W.keepIn K (.ref f_law_till) = true)
    (a_law_pull : PySem.W.nsIn K mainGlobals "_law_pull" = some (some (.ref f_law_pull)))
    (l_law_pull : K.lookup f_law_pull = some ⟨oc_law_pull, od_law_pull, .func (PySem.W.fnOf "_law_pull" "_law_pull" (defArgs s_law_pull) (defBody s_law_pull) (defScope s_law_pull) .none kV_law_pull dc_law_pull pm_law_pull an_law_pull cd_law_pull ct_law_pull), sl_law_pull⟩)
    (c_law_pull : PySem.W.codeIn K cd_law_pull "_law_pull" = true)
    (k_law_pull : PySem.W.keepIn K (.ref f_law_pull) = true)
    (a_law_near : PySem.W.nsIn K mainGlobals "_law_near" = some (some (.ref f_law_near)))
    (l_law_near : K.lookup f_law_near = some ⟨oc_law_near, od_law_near, .func (PySem.W.fnOf "_law_near" "_law_near" (defArgs s_law_near) (defBody s_law_near) (defScope s_law_near) .none kV_law_near dc_law_near pm_law_near an_law_near cd_law_near ct_law_near), sl_law_near⟩)
    (c_law_near : PySem.W.codeIn K cd_law_near "_law_near" = true)
    (k_law_near : PySem.W.keepIn K (.ref f_law_near) = true)
    (a_law_buyer : PySem.W.nsIn K mainGlobals "_law_buyer" = some (some (.ref f_law_buyer)))
    (l_law_buyer : K.lookup f_law_buyer = some ⟨oc_law_buyer, od_law_buyer, .func (PySem.W.fnOf "_law_buyer" "_law_buyer" (defArgs s_law_buyer) (defBody s_law_buyer) (defScope s_law_buyer) .none kV_law_buyer dc_law_buyer pm_law_buyer an_law_buyer cd_law_buyer ct_law_buyer), sl_law_buyer⟩)
    (c_law_buyer : PySem.W.codeIn K cd_law_buyer "_law_buyer" = true)
    (k_law_buyer : PySem.W.keepIn K (.ref f_law_buyer) = true)
    (a_law_market : PySem.W.nsIn K mainGlobals "_law_market" = some (some (.ref f_law_market)))
    (l_law_market : K.lookup f_law_market = some ⟨oc_law_market, od_law_market, .func (PySem.W.fnOf "_law_market" "_law_market" (defArgs s_law_market) (defBody s_law_market) (defScope s_law_market) .none kV_law_market dc_law_market pm_law_market an_law_market cd_law_market ct_law_market), sl_law_market⟩)
    (c_law_market : PySem.W.codeIn K cd_law_market "_law_market" = true)
    (k_law_market : PySem.W.keepIn K (.ref f_law_market) = true)
    (a_law_take : PySem.W.nsIn K mainGlobals "_law_take" = some (some (.ref f_law_take)))
    (l_law_take : K.lookup f_law_take = some ⟨oc_law_take, od_law_take, .func (PySem.W.fnOf "_law_take" "_law_take" (defArgs s_law_take) (defBody s_law_take) (defScope s_law_take) .none kV_law_take dc_law_take pm_law_take an_law_take cd_law_take ct_law_take), sl_law_take⟩)
    (c_law_take : PySem.W.codeIn K cd_law_take "_law_take" = true)
    (k_law_take : PySem.W.keepIn K (.ref f_law_take) = true)
    (a_law_tags : PySem.W.nsIn K mainGlobals "_law_tags" = some (some (.ref f_law_tags)))
    (l_law_tags : K.lookup f_law_tags = some ⟨oc_law_tags, od_law_tags, .func (PySem.W.fnOf "_law_tags" "_law_tags" (defArgs s_law_tags) (defBody s_law_tags) (defScope s_law_tags) .none kV_law_tags dc_law_tags pm_law_tags an_law_tags cd_law_tags ct_law_tags), sl_law_tags⟩)
    (c_law_tags : PySem.W.codeIn K cd_law_tags "_law_tags" = true)
    (k_law_tags : PySem.W.keepIn K (.ref f_law_tags) = true)
    (a_law_same : PySem.W.nsIn K mainGlobals "_law_same" = some (some (.ref f_law_same)))
    (l_law_same : K.lookup f_law_same = some ⟨oc_law_same, od_law_same, .func (PySem.W.fnOf "_law_same" "_law_same" (defArgs s_law_same) (defBody s_law_same) (defScope s_law_same) .none kV_law_same dc_law_same pm_law_same an_law_same cd_law_same ct_law_same), sl_law_same⟩)
    (c_law_same : PySem.W.codeIn K cd_law_same "_law_same" = true)
    (k_law_same : PySem.W.keepIn K (.ref f_law_same) = true)
    (a_law : PySem.W.nsIn K mainGlobals "law" = some (some (.ref f_law)))
    (l_law : K.lookup f_law = some ⟨oc_law, od_law, .func (PySem.W.fnOf "law" "law" (defArgs s_law) (defBody s_law) (defScope s_law) .none kV_law dc_law pm_law an_law cd_law ct_law), sl_law⟩)
    (c_law : PySem.W.codeIn K cd_law "law" = true)
    (k_law : PySem.W.keepIn K (.ref f_law) = true)
    (z_all : PySem.W.nsIn K mainGlobals "all" = some none)
    (z_bool : PySem.W.nsIn K mainGlobals "bool" = some none)
    (z_enumerate : PySem.W.nsIn K mainGlobals "enumerate" = some none)
    (z_int : PySem.W.nsIn K mainGlobals "int" = some none)
    (z_isinstance : PySem.W.nsIn K mainGlobals "isinstance" = some none)
    (z_len : PySem.W.nsIn K mainGlobals "len" = some none)
    (z_list : PySem.W.nsIn K mainGlobals "list" = some none)
    (z_max : PySem.W.nsIn K mainGlobals "max" = some none)
    (z_min : PySem.W.nsIn K mainGlobals "min" = some none)
    (z_range : PySem.W.nsIn K mainGlobals "range" = some none)
    (z_repr : PySem.W.nsIn K mainGlobals "repr" = some none)
    (z_tuple : PySem.W.nsIn K mainGlobals "tuple" = some none)
    (g_MOST_DAYS : PySem.W.nsIn K mainGlobals "MOST_DAYS" = some (some vc_MOST_DAYS))
    (r_MOST_DAYS : RelV (.int (6)) vc_MOST_DAYS)
    (g_MOST_GOODS : PySem.W.nsIn K mainGlobals "MOST_GOODS" = some (some vc_MOST_GOODS))
    (r_MOST_GOODS : RelV (.int (4)) vc_MOST_GOODS)
    (g_MOST_PRICE : PySem.W.nsIn K mainGlobals "MOST_PRICE" = some (some vc_MOST_PRICE))
    (r_MOST_PRICE : RelV (.int (1000000)) vc_MOST_PRICE)
    (g_MOST_STEP : PySem.W.nsIn K mainGlobals "MOST_STEP" = some (some vc_MOST_STEP))
    (r_MOST_STEP : RelV (.int (4)) vc_MOST_STEP)
    (g_MOST_WORTH : PySem.W.nsIn K mainGlobals "MOST_WORTH" = some (some vc_MOST_WORTH))
    (r_MOST_WORTH : RelV (.int (99)) vc_MOST_WORTH) : FnScope ["script", "k", "till", "mart", "goods", "days", "at", "turn", "rounds", "far", "tags", "words", "due", "first", "again"] ["script"] (defScope s_law) ∧
      ∃ fd : FuncData, FnT K mg "law" s_law [] [] fa fd ∧ (∀ (s : Shared) (u : Value), BindsTo s fd ⟨[u], []⟩ [("script", u)]) ∧ ∀ base : Heap, K.In base → base.Ns mainGlobals mg →
        ∀ (cdv : Value) (s : Shared) (H : Hp) (E : XK), Room 7 (callerA.deeper (PyProof.Rows.envOfC "law" (defScope s_law) s.heap.objs.size fa cdv)) →
        ∃ td : TSD, PSsD (cxOf CX0 P w K mg base ["script", "k", "till", "mart", "goods", "days", "at", "turn", "rounds", "far", "tags", "words", "due", "first", "again"] "law" (defScope s_law) fa cdv callerA [] s H E).nox (defBody s_law) td ∧
          ∀ ns : List Int, ns.length ≤ 63 → td lawE (some (.dat (.list (ns.map .int))) :: List.replicate (["script", "k", "till", "mart", "goods", "days", "at", "turn", "rounds", "far", "tags", "words", "due", "first", "again"].length - 1) none) := by
  have e := hfa.symm.trans (PySem.W.mg_of X G a_law)
  cases e
  have tx : Txt K mg ⟨f_is_whole, (PySem.W.fnOf "is_whole" "is_whole" (defArgs s_is_whole) (defBody s_is_whole) (defScope s_is_whole) (.ref t_is_whole) kV_is_whole dc_is_whole pm_is_whole an_is_whole cd_is_whole ct_is_whole), f_is_list, (PySem.W.fnOf "is_list" "is_list" (defArgs s_is_list) (defBody s_is_list) (defScope s_is_list) .none kV_is_list dc_is_list pm_is_list an_is_list cd_is_list ct_is_list), f_is_good, (PySem.W.fnOf "is_good" "is_good" (defArgs s_is_good) (defBody s_is_good) (defScope s_is_good) .none kV_is_good dc_is_good pm_is_good an_is_good cd_is_good ct_is_good), f_is_goods, (PySem.W.fnOf "is_goods" "is_goods" (defArgs s_is_goods) (defBody s_is_goods) (defScope s_is_goods) .none kV_is_goods dc_is_goods pm_is_goods an_is_goods cd_is_goods ct_is_goods), f_is_buyer, (PySem.W.fnOf "is_buyer" "is_buyer" (defArgs s_is_buyer) (defBody s_is_buyer) (defScope s_is_buyer) .none kV_is_buyer dc_is_buyer pm_is_buyer an_is_buyer cd_is_buyer ct_is_buyer), f_is_market, (PySem.W.fnOf "is_market" "is_market" (defArgs s_is_market) (defBody s_is_market) (defScope s_is_market) .none kV_is_market dc_is_market pm_is_market an_is_market cd_is_market ct_is_market), f_need_market, (PySem.W.fnOf "need_market" "need_market" (defArgs s_need_market) (defBody s_need_market) (defScope s_need_market) .none kV_need_market dc_need_market pm_need_market an_need_market cd_need_market ct_need_market), f_is_prices, (PySem.W.fnOf "is_prices" "is_prices" (defArgs s_is_prices) (defBody s_is_prices) (defScope s_is_prices) .none kV_is_prices dc_is_prices pm_is_prices an_is_prices cd_is_prices ct_is_prices), f_need_prices, (PySem.W.fnOf "need_prices" "need_prices" (defArgs s_need_prices) (defBody s_need_prices) (defScope s_need_prices) .none kV_need_prices dc_need_prices pm_need_prices an_need_prices cd_need_prices ct_need_prices), f_need_day, (PySem.W.fnOf "need_day" "need_day" (defArgs s_need_day) (defBody s_need_day) (defScope s_need_day) (.ref t_need_day) kV_need_day dc_need_day pm_need_day an_need_day cd_need_day ct_need_day), f_taken, (PySem.W.fnOf "taken" "taken" (defArgs s_taken) (defBody s_taken) (defScope s_taken) .none kV_taken dc_taken pm_taken an_taken cd_taken ct_taken), f_buyer_of, (PySem.W.fnOf "buyer_of" "buyer_of" (defArgs s_buyer_of) (defBody s_buyer_of) (defScope s_buyer_of) .none kV_buyer_of dc_buyer_of pm_buyer_of an_buyer_of cd_buyer_of ct_buyer_of), f_take_of, (PySem.W.fnOf "take_of" "take_of" (defArgs s_take_of) (defBody s_take_of) (defScope s_take_of) .none (.ref q_take_of) dc_take_of pm_take_of an_take_of cd_take_of ct_take_of), f_law_till, (PySem.W.fnOf "_law_till" "_law_till" (defArgs s_law_till) (defBody s_law_till) (defScope s_law_till) .none kV_law_till dc_law_till pm_law_till an_law_till cd_law_till ct_law_till), f_law_pull, (PySem.W.fnOf "_law_pull" "_law_pull" (defArgs s_law_pull) (defBody s_law_pull) (defScope s_law_pull) .none kV_law_pull dc_law_pull pm_law_pull an_law_pull cd_law_pull ct_law_pull), f_law_near, (PySem.W.fnOf "_law_near" "_law_near" (defArgs s_law_near) (defBody s_law_near) (defScope s_law_near) .none kV_law_near dc_law_near pm_law_near an_law_near cd_law_near ct_law_near), f_law_buyer, (PySem.W.fnOf "_law_buyer" "_law_buyer" (defArgs s_law_buyer) (defBody s_law_buyer) (defScope s_law_buyer) .none kV_law_buyer dc_law_buyer pm_law_buyer an_law_buyer cd_law_buyer ct_law_buyer), f_law_market, (PySem.W.fnOf "_law_market" "_law_market" (defArgs s_law_market) (defBody s_law_market) (defScope s_law_market) .none kV_law_market dc_law_market pm_law_market an_law_market cd_law_market ct_law_market), f_law_take, (PySem.W.fnOf "_law_take" "_law_take" (defArgs s_law_take) (defBody s_law_take) (defScope s_law_take) .none kV_law_take dc_law_take pm_law_take an_law_take cd_law_take ct_law_take), f_law_tags, (PySem.W.fnOf "_law_tags" "_law_tags" (defArgs s_law_tags) (defBody s_law_tags) (defScope s_law_tags) .none kV_law_tags dc_law_tags pm_law_tags an_law_tags cd_law_tags ct_law_tags), f_law_same, (PySem.W.fnOf "_law_same" "_law_same" (defArgs s_law_same) (defBody s_law_same) (defScope s_law_same) .none kV_law_same dc_law_same pm_law_same an_law_same cd_law_same ct_law_same)⟩ := {
    F_is_whole := ⟨⟨⟨_, _, _, _, _, _, _, _, _, _, rfl, l_is_whole, c_is_whole, .inr ⟨by simp, t_is_whole, o_is_whole, its_is_whole, m_is_whole, rfl, u_is_whole, v_is_whole, w_is_whole⟩, .inl rfl⟩, k_is_whole⟩, PySem.W.mg_of X G a_is_whole⟩,
    F_is_list := ⟨⟨⟨_, _, _, _, _, _, _, _, _, _, rfl, l_is_list, c_is_list, .inl ⟨rfl, rfl⟩, .inl rfl⟩, k_is_list⟩, PySem.W.mg_of X G a_is_list⟩,
    F_is_good := ⟨⟨⟨_, _, _, _, _, _, _, _, _, _, rfl, l_is_good, c_is_good, .inl ⟨rfl, rfl⟩, .inl rfl⟩, k_is_good⟩, PySem.W.mg_of X G a_is_good⟩,
    F_is_goods := ⟨⟨⟨_, _, _, _, _, _, _, _, _, _, rfl, l_is_goods, c_is_goods, .inl ⟨rfl, rfl⟩, .inl rfl⟩, k_is_goods⟩, PySem.W.mg_of X G a_is_goods⟩,
    F_is_buyer := ⟨⟨⟨_, _, _, _, _, _, _, _, _, _, rfl, l_is_buyer, c_is_buyer, .inl ⟨rfl, rfl⟩, .inl rfl⟩, k_is_buyer⟩, PySem.W.mg_of X G a_is_buyer⟩,
    F_is_market := ⟨⟨⟨_, _, _, _, _, _, _, _, _, _, rfl, l_is_market, c_is_market, .inl ⟨rfl, rfl⟩, .inl rfl⟩, k_is_market⟩, PySem.W.mg_of X G a_is_market⟩,
    F_need_market := ⟨⟨⟨_, _, _, _, _, _, _, _, _, _, rfl, l_need_market, c_need_market, .inl ⟨rfl, rfl⟩, .inl rfl⟩, k_need_market⟩, PySem.W.mg_of X G a_need_market⟩,
    F_is_prices := ⟨⟨⟨_, _, _, _, _, _, _, _, _, _, rfl, l_is_prices, c_is_prices, .inl ⟨rfl, rfl⟩, .inl rfl⟩, k_is_prices⟩, PySem.W.mg_of X G a_is_prices⟩,
    F_need_prices := ⟨⟨⟨_, _, _, _, _, _, _, _, _, _, rfl, l_need_prices, c_need_prices, .inl ⟨rfl, rfl⟩, .inl rfl⟩, k_need_prices⟩, PySem.W.mg_of X G a_need_prices⟩,
    F_need_day := ⟨⟨⟨_, _, _, _, _, _, _, _, _, _, rfl, l_need_day, c_need_day, .inr ⟨by simp, t_need_day, o_need_day, its_need_day, m_need_day, rfl, u_need_day, v_need_day, w_need_day⟩, .inl rfl⟩, k_need_day⟩, PySem.W.mg_of X G a_need_day⟩,
    F_taken := ⟨⟨⟨_, _, _, _, _, _, _, _, _, _, rfl, l_taken, c_taken, .inl ⟨rfl, rfl⟩, .inl rfl⟩, k_taken⟩, PySem.W.mg_of X G a_taken⟩,
    F_buyer_of := ⟨⟨⟨_, _, _, _, _, _, _, _, _, _, rfl, l_buyer_of, c_buyer_of, .inl ⟨rfl, rfl⟩, .inl rfl⟩, k_buyer_of⟩, PySem.W.mg_of X G a_buyer_of⟩,
    F_take_of := ⟨⟨⟨_, _, _, _, _, _, _, _, _, _, rfl, l_take_of, c_take_of, .inl ⟨rfl, rfl⟩, .inr ⟨q_take_of, rfl, fun q hq => by
      simp only [List.mem_cons, List.mem_nil_iff, or_false] at hq
      subst hq
      exact ⟨_, x_take_of_day, y_take_of_day⟩⟩⟩, k_take_of⟩, PySem.W.mg_of X G a_take_of⟩,
    F_law_till := ⟨⟨⟨_, _, _, _, _, _, _, _, _, _, rfl, l_law_till, c_law_till, .inl ⟨rfl, rfl⟩, .inl rfl⟩, k_law_till⟩, PySem.W.mg_of X G a_law_till⟩,
    F_law_pull := ⟨⟨⟨_, _, _, _, _, _, _, _, _, _, rfl, l_law_pull, c_law_pull, .inl ⟨rfl, rfl⟩, .inl rfl⟩, k_law_pull⟩, PySem.W.mg_of X G a_law_pull⟩,
    F_law_near := ⟨⟨⟨_, _, _, _, _, _, _, _, _, _, rfl, l_law_near, c_law_near, .inl ⟨rfl, rfl⟩, .inl rfl⟩, k_law_near⟩, PySem.W.mg_of X G a_law_near⟩,
    F_law_buyer := ⟨⟨⟨_, _, _, _, _, _, _, _, _, _, rfl, l_law_buyer, c_law_buyer, .inl ⟨rfl, rfl⟩, .inl rfl⟩, k_law_buyer⟩, PySem.W.mg_of X G a_law_buyer⟩,
    F_law_market := ⟨⟨⟨_, _, _, _, _, _, _, _, _, _, rfl, l_law_market, c_law_market, .inl ⟨rfl, rfl⟩, .inl rfl⟩, k_law_market⟩, PySem.W.mg_of X G a_law_market⟩,
    F_law_take := ⟨⟨⟨_, _, _, _, _, _, _, _, _, _, rfl, l_law_take, c_law_take, .inl ⟨rfl, rfl⟩, .inl rfl⟩, k_law_take⟩, PySem.W.mg_of X G a_law_take⟩,
    F_law_tags := ⟨⟨⟨_, _, _, _, _, _, _, _, _, _, rfl, l_law_tags, c_law_tags, .inl ⟨rfl, rfl⟩, .inl rfl⟩, k_law_tags⟩, PySem.W.mg_of X G a_law_tags⟩,
    F_law_same := ⟨⟨⟨_, _, _, _, _, _, _, _, _, _, rfl, l_law_same, c_law_same, .inl ⟨rfl, rfl⟩, .inl rfl⟩, k_law_same⟩, PySem.W.mg_of X G a_law_same⟩,
    n_all := PySem.W.mg_none_of X G z_all,
    n_bool := PySem.W.mg_none_of X G z_bool,
    n_enumerate := PySem.W.mg_none_of X G z_enumerate,
    n_int := PySem.W.mg_none_of X G z_int,
    n_isinstance := PySem.W.mg_none_of X G z_isinstance,
    n_len := PySem.W.mg_none_of X G z_len,
    n_list := PySem.W.mg_none_of X G z_list,
    n_max := PySem.W.mg_none_of X G z_max,
    n_min := PySem.W.mg_none_of X G z_min,
    n_range := PySem.W.mg_none_of X G z_range,
    n_repr := PySem.W.mg_none_of X G z_repr,
    n_tuple := PySem.W.mg_none_of X G z_tuple,
    c_MOST_DAYS := ⟨_, PySem.W.mg_of X G g_MOST_DAYS, r_MOST_DAYS⟩,
    c_MOST_GOODS := ⟨_, PySem.W.mg_of X G g_MOST_GOODS, r_MOST_GOODS⟩,
    c_MOST_PRICE := ⟨_, PySem.W.mg_of X G g_MOST_PRICE, r_MOST_PRICE⟩,
    c_MOST_STEP := ⟨_, PySem.W.mg_of X G g_MOST_STEP, r_MOST_STEP⟩,
    c_MOST_WORTH := ⟨_, PySem.W.mg_of X G g_MOST_WORTH, r_MOST_WORTH⟩ }
  exact ⟨sc_law, _, ⟨⟨⟨_, _, _, _, _, _, _, _, _, _, rfl, l_law, c_law, .inl ⟨rfl, rfl⟩, .inl rfl⟩, k_law⟩, PySem.W.mg_of X G a_law⟩, fun s v => .of_eq rfl, fun base _ _ cdv s H E hr => ok_law tx _ cdv s H E hr⟩
end Law
open PySem PySem.W PyProof.Rows
set_option maxRecDepth 100000 in
set_option maxHeartbeats 0 in
theorem PySem.Challenge.cw_soldrises_k03_whom_a_good_goes_to_holds : PySem.Challenge.rw_soldrises_k03_whom_a_good_goes_to.Holds := by
  w_on; o_law; k_head; (case hw => w_witness2)
  k_fill
  refine DL.law_end (l := PySem.Challenge.rw_soldrises_k03_whom_a_good_goes_to) (k := 7) (st := Law.s_law) (N := ["script", "k", "till", "mart", "goods", "days", "at", "turn", "rounds", "far", "tags", "words", "due", "first", "again"]) rfl rfl ⟨rfl, by decide, by decide⟩ (fun w h Y => PySem.W.kIn_of Y) ?F
  case F =>
    intro w mg fa h KX G hmg
    refine' Law.all_mk KX G hmg ?a_is_whole ?l_is_whole ?c_is_whole ?k_is_whole ?u_is_whole ?v_is_whole ?w_is_whole ?a_is_list ?l_is_list ?c_is_list ?k_is_list ?a_is_good ?l_is_good ?c_is_good ?k_is_good ?a_is_goods ?l_is_goods ?c_is_goods ?k_is_goods ?a_is_buyer ?l_is_buyer ?c_is_buyer ?k_is_buyer ?a_is_market ?l_is_market ?c_is_market ?k_is_market ?a_need_market ?l_need_market ?c_need_market ?k_need_market ?a_is_prices ?l_is_prices ?c_is_prices ?k_is_prices ?a_need_prices ?l_need_prices ?c_need_prices ?k_need_prices ?a_need_day ?l_need_day ?c_need_day ?k_need_day ?u_need_day ?v_need_day ?w_need_day ?a_taken ?l_taken ?c_taken ?k_taken ?a_buyer_of ?l_buyer_of ?c_buyer_of ?k_buyer_of ?a_take_of ?l_take_of ?c_take_of ?k_take_of ?x_take_of_day ?y_take_of_day ?a_law_till ?l_law_till ?c_law_till ?k_law_till ?a_law_pull ?l_law_pull ?c_law_pull ?k_law_pull ?a_law_near ?l_law_near ?c_law_near ?k_law_near ?a_law_buyer ?l_law_buyer ?c_law_buyer ?k_law_buyer ?a_law_market ?l_law_market ?c_law_market ?k_law_market ?a_law_take ?l_law_take ?c_law_take ?k_law_take ?a_law_tags ?l_law_tags ?c_law_tags ?k_law_tags ?a_law_same ?l_law_same ?c_law_same ?k_law_same ?a_law ?l_law ?c_law ?k_law ?z_all ?z_bool ?z_enumerate ?z_int ?z_isinstance ?z_len ?z_list ?z_max ?z_min ?z_range ?z_repr ?z_tuple ?g_MOST_DAYS ?r_MOST_DAYS ?g_MOST_GOODS ?r_MOST_GOODS ?g_MOST_PRICE ?r_MOST_PRICE ?g_MOST_STEP ?r_MOST_STEP ?g_MOST_WORTH ?r_MOST_WORTH
    (case a_is_whole => k_is)
    (case l_is_whole => k_is)
    (case c_is_whole => k_is)
    (case k_is_whole => k_is)
    (case u_is_whole => k_is)
    (case v_is_whole => rfl)
    (case w_is_whole => exact (.cons rfl (.cons rfl .nil)))
    (case a_is_list => k_is)
    (case l_is_list => k_is)
    (case c_is_list => k_is)
    (case k_is_list => k_is)
    (case a_is_good => k_is)
    (case l_is_good => k_is)
    (case c_is_good => k_is)
    (case k_is_good => k_is)
    (case a_is_goods => k_is)
    (case l_is_goods => k_is)
    (case c_is_goods => k_is)
    (case k_is_goods => k_is)
    (case a_is_buyer => k_is)
    (case l_is_buyer => k_is)
    (case c_is_buyer => k_is)
    (case k_is_buyer => k_is)
    (case a_is_market => k_is)
    (case l_is_market => k_is)
    (case c_is_market => k_is)
    (case k_is_market => k_is)
    (case a_need_market => k_is)
    (case l_need_market => k_is)
    (case c_need_market => k_is)
    (case k_need_market => k_is)
    (case a_is_prices => k_is)
    (case l_is_prices => k_is)
    (case c_is_prices => k_is)
    (case k_is_prices => k_is)
    (case a_need_prices => k_is)
    (case l_need_prices => k_is)
    (case c_need_prices => k_is)
    (case k_need_prices => k_is)
    (case a_need_day => k_is)
    (case l_need_day => k_is)
    (case c_need_day => k_is)
    (case k_need_day => k_is)
    (case u_need_day => k_is)
    (case v_need_day => rfl)
    (case w_need_day => exact (.cons rfl .nil))
    (case a_taken => k_is)
    (case l_taken => k_is)
    (case c_taken => k_is)
    (case k_taken => k_is)
    (case a_buyer_of => k_is)
    (case l_buyer_of => k_is)
    (case c_buyer_of => k_is)
    (case k_buyer_of => k_is)
    (case a_take_of => k_is)
    (case l_take_of => k_is)
    (case c_take_of => k_is)
    (case k_take_of => k_is)
    (case x_take_of_day => k_is)
    (case y_take_of_day => exact ⟨_, rfl⟩)
    (case a_law_till => k_is)
    (case l_law_till => k_is)
    (case c_law_till => k_is)
    (case k_law_till => k_is)
    (case a_law_pull => k_is)
    (case l_law_pull => k_is)
    (case c_law_pull => k_is)
    (case k_law_pull => k_is)
    (case a_law_near => k_is)
    (case l_law_near => k_is)
    (case c_law_near => k_is)
    (case k_law_near => k_is)
    (case a_law_buyer => k_is)
    (case l_law_buyer => k_is)
    (case c_law_buyer => k_is)
    (case k_law_buyer => k_is)
    (case a_law_market => k_is)
    (case l_law_market => k_is)
    (case c_law_market => k_is)
    (case k_law_market => k_is)
    (case a_law_take => k_is)
    (case l_law_take => k_is)
    (case c_law_take => k_is)
    (case k_law_take => k_is)
    (case a_law_tags => k_is)
    (case l_law_tags => k_is)
    (case c_law_tags => k_is)
    (case k_law_tags => k_is)
    (case a_law_same => k_is)
    (case l_law_same => k_is)
    (case c_law_same => k_is)
    (case k_law_same => k_is)
    (case a_law => k_is)
    (case l_law => k_is)
    (case c_law => k_is)
    (case k_law => k_is)
    (case z_all => k_is)
    (case z_bool => k_is)
    (case z_enumerate => k_is)
    (case z_int => k_is)
    (case z_isinstance => k_is)
    (case z_len => k_is)
    (case z_list => k_is)
    (case z_max => k_is)
    (case z_min => k_is)
    (case z_range => k_is)
    (case z_repr => k_is)
    (case z_tuple => k_is)
    (case g_MOST_DAYS => k_is)
    (case r_MOST_DAYS => exact ⟨_, rfl⟩)
    (case g_MOST_GOODS => k_is)
    (case r_MOST_GOODS => exact ⟨_, rfl⟩)
    (case g_MOST_PRICE => k_is)
    (case r_MOST_PRICE => exact ⟨_, rfl⟩)
    (case g_MOST_STEP => k_is)
    (case r_MOST_STEP => exact ⟨_, rfl⟩)
    (case g_MOST_WORTH => k_is)
    (case r_MOST_WORTH => exact ⟨_, rfl⟩)
#print axioms PySem.Challenge.cw_soldrises_k03_whom_a_good_goes_to_holds
