/- Code on typed symbolic states does what it does on abstract ones. Generic in the program; no condition. -/
import Derived.Test.YtoofpdmdgofdcaaRA
namespace Go.Proofs.Ytoofpdmdgofdcaa.X
open Go Go.RowKit Go.Proofs.Ytoofpdmdgofdcaa.E
set_option linter.unusedVariables false
set_option linter.unusedSimpArgs false

variable {P : Program} {f : Cx} {B S : AState} {s : St} {K : AEnv → AState → Prop} {Q : AX → AEnv → AState → Prop} {T : Tab} {L : Lps} {rs : Option Nat → Prop}

theorem ALe.of_eq {a b : AV} (h : a = b) : ALe a b := h ▸ .refl a
theorem ALe.own (z : Nat) (n : Nat) (cs : List AV) : ALe (.sl (.yes z) n cs) (.sl .no n cs) := .pl _

theorem mergeV_ok {c : Bool} {x y v : SV} (h : mergeV c x y = some v) : (c = true → ∀ f, ALe (x.av f) (v.av f)) ∧ (c = false → ∀ f, ALe (y.av f) (v.av f)) := by
  unfold mergeV at h
  split at h
  · cases h; exact ⟨fun _ f => .refl _, fun _ f => .refl _⟩
  · cases h; exact ⟨fun _ f => .refl _, fun _ f => .refl _⟩
  · cases h; exact ⟨fun e f => .of_eq (by simp [SV.av, e]), fun e f => .of_eq (by simp [SV.av, e])⟩
  · cases h; exact ⟨fun e f => .of_eq (by simp [SV.av, e]), fun e f => .of_eq (by simp [SV.av, e])⟩
  · cases h; exact ⟨fun e f => .of_eq (by simp [SV.av, e]), fun e f => .of_eq (by simp [SV.av, e])⟩
  · cases h; exact ⟨fun e f => .of_eq (by simp [SV.av, e]), fun e f => .of_eq (by simp [SV.av, e])⟩
  · cases h; exact ⟨fun e f => .of_eq (by simp [SV.av, e]), fun e f => .of_eq (by simp [SV.av, e])⟩
  · cases h; exact ⟨fun e f => .of_eq (by simp [SV.av, e]), fun e f => .of_eq (by simp [SV.av, e])⟩
  · cases h; exact ⟨fun e f => .of_eq (by simp [SV.av, e]), fun e f => .of_eq (by simp [SV.av, e])⟩
  · split at h
    · rename_i hk
      subst hk
      cases h; exact ⟨fun e f => .of_eq (by simp [SV.av, e]), fun e f => .of_eq (by simp [SV.av, e])⟩
    · cases h
  · cases h; exact ⟨fun e f => .of_eq (by simp [SV.av, e]), fun e f => .of_eq (by simp [SV.av, e])⟩
  · cases h; exact ⟨fun e f => .of_eq (by simp [SV.av, e]), fun e f => .of_eq (by simp [SV.av, e])⟩
  · cases h; exact ⟨fun _ f => .refl _, fun _ f => .refl _⟩
  · cases h; exact ⟨fun _ f => .refl _, fun _ f => .refl _⟩
  · rename_i o g x o' g' y
    split at h
    · rename_i hh e0
      subst hh
      cases h
      refine ⟨fun e f => ?_, fun e f => ?_⟩
      · subst e
        cases o <;> cases o' <;> simp only [SV.av, cond_true, GT.cast_rfl, Bool.and_true, Bool.and_false, Bool.and_self] <;> first | exact .refl _ | exact .own _ _ _
      · subst e
        cases o <;> cases o' <;> simp only [SV.av, cond_false, Bool.and_true, Bool.and_false, Bool.and_self, Bool.false_and, Bool.true_and] <;> first | exact .refl _ | exact .own _ _ _
    · cases h
  · cases h
    refine ⟨fun e f => ?_, fun e f => ?_⟩
    · subst e
      simp only [SV.av, cond_true, List.length_nil, List.flatMap_nil]
      exact .nil _
    · subst e
      exact .refl _
  · cases h
    refine ⟨fun e f => ?_, fun e f => ?_⟩
    · subst e
      exact .refl _
    · subst e
      simp only [SV.av, cond_false, List.length_nil, List.flatMap_nil]
      exact .nil _
  · cases h
    refine ⟨fun e f => ?_, fun e f => ?_⟩
    · subst e
      simp only [SV.av, cond_true, List.length_nil, List.flatMap_nil]
      exact .refl _
    · subst e
      rename_i o g y
      cases o <;> simp only [SV.av, cond_false] <;> first | exact .refl _ | exact .own _ _ _
  · cases h
    refine ⟨fun e f => ?_, fun e f => ?_⟩
    · subst e
      rename_i o g y
      cases o <;> simp only [SV.av, cond_true] <;> first | exact .refl _ | exact .own _ _ _
    · subst e
      simp only [SV.av, cond_false, List.length_nil, List.flatMap_nil]
      exact .refl _
  · cases h; exact ⟨fun _ f => .nil _, fun _ f => .refl _⟩
  · cases h; exact ⟨fun _ f => .refl _, fun _ f => .nil _⟩
  · split at h
    · rename_i hk
      obtain ⟨rfl, rfl⟩ := hk
      cases h; exact ⟨fun _ f => .refl _, fun _ f => .refl _⟩
    · cases h
  · cases h

theorem mergeV_le {c : Bool} {x y : SV} : (c = true → ∀ f, ALe (x.av f) ((orU (mergeV c x y)).av f)) ∧ (c = false → ∀ f, ALe (y.av f) ((orU (mergeV c x y)).av f)) := by
  unfold orU
  split
  · rename_i v h; exact mergeV_ok h
  · exact ⟨fun _ f => .u _, fun _ f => .u _⟩

/-- One list out of two, at some places. -/
theorem mergeEnv_get {c : Bool} {e0 e1 e2 : List SV} : ∀ (js : List Nat), (mergeEnv c e0 e1 e2 js).length = e0.length ∧ (∀ j, j ∉ js → (mergeEnv c e0 e1 e2 js)[j]? = e0[j]?) ∧
    ∀ j, j ∈ js → j < e0.length → (mergeEnv c e0 e1 e2 js)[j]? = some (orU (mergeV c (e1.getD j (.raw .u)) (e2.getD j (.raw .u))))
  | [] => ⟨rfl, fun j _ => rfl, fun j h => by simp at h⟩
  | i :: js => by
    obtain ⟨h1, h2, h3⟩ := mergeEnv_get (c := c) (e0 := e0) (e1 := e1) (e2 := e2) js
    refine ⟨by simp only [mergeEnv, List.length_set, h1], fun j hj => ?_, fun j hj hl => ?_⟩
    · simp only [List.mem_cons, not_or] at hj
      simp only [mergeEnv]
      rw [List.getElem?_set_ne (Ne.symm hj.1)]
      exact h2 j hj.2
    · simp only [mergeEnv]
      by_cases e : i = j
      · subst e
        rw [List.getElem?_set_self (by rw [h1]; exact hl)]
      · rw [List.getElem?_set_ne e]
        exact h3 j ((List.mem_cons.1 hj).resolve_left (Ne.symm e)) hl

theorem mergeC_get {c : Bool} {e0 e1 e2 : List SV} {id : Nat} : ∀ (js : List (Nat × Nat)), (mergeC c e0 e1 e2 id js).length = e0.length ∧ (∀ j, (id, j) ∉ js → (mergeC c e0 e1 e2 id js)[j]? = e0[j]?) ∧
    ∀ j, (id, j) ∈ js → j < e0.length → (mergeC c e0 e1 e2 id js)[j]? = some (orU (mergeV c (e1.getD j (.raw .u)) (e2.getD j (.raw .u))))
  | [] => ⟨rfl, fun j _ => rfl, fun j h => by simp at h⟩
  | (a, b) :: js => by
    obtain ⟨h1, h2, h3⟩ := mergeC_get (c := c) (e0 := e0) (e1 := e1) (e2 := e2) (id := id) js
    simp only [mergeC]
    by_cases ha : a = id
    · subst ha
      simp only [if_true]
      refine ⟨by rw [List.length_set, h1], fun j hj => ?_, fun j hj hl => ?_⟩
      · simp only [List.mem_cons, not_or, Prod.mk.injEq, true_and] at hj
        rw [List.getElem?_set_ne (Ne.symm hj.1)]
        exact h2 j hj.2
      · by_cases e : b = j
        · subst e
          rw [List.getElem?_set_self (by rw [h1]; exact hl)]
        · rw [List.getElem?_set_ne e]
          refine h3 j ?_ hl
          simp only [List.mem_cons, Prod.mk.injEq, true_and] at hj
          exact hj.resolve_left (Ne.symm e)
    · simp only [ha, if_false]
      refine ⟨h1, fun j hj => ?_, fun j hj hl => ?_⟩
      · simp only [List.mem_cons, not_or] at hj
        exact h2 j hj.2
      · refine h3 j ?_ hl
        simp only [List.mem_cons, Prod.mk.injEq] at hj
        exact hj.resolve_left fun e => ha e.1.symm

theorem getD_at {l : List SV} {j : Nat} {a : SV} (h : l[j]? = some a) : l.getD j (.raw .u) = a := by rw [List.getD_eq_getElem?_getD, h]; rfl

/-- The rows of cells, one way. -/
theorem merged_le {l0 l1 l : List SV} {W : Nat → Prop} (hl : l.length = l0.length) (hl1 : l1.length = l0.length) (h1 : ∀ j, ¬ W j → l1[j]? = l0[j]?) (h2 : ∀ j, ¬ W j → l[j]? = l0[j]?) (h3 : ∀ j, W j → ∀ a b, l1[j]? = some a → l[j]? = some b → ∀ f, ALe (a.av f) (b.av f)) (f : Cx) : LeL (SV.avs f l1) (SV.avs f l) := by
  refine ⟨by rw [avs_len, avs_len, hl, hl1], fun j a b ha hb => ?_⟩
  rw [avs_get, Option.map_eq_some_iff] at ha hb
  obtain ⟨a, ha, rfl⟩ := ha
  obtain ⟨b, hb, rfl⟩ := hb
  by_cases hw : W j
  · exact h3 j hw a b ha hb f
  · have : some a = some b := by rw [← ha, ← hb, h1 j hw, h2 j hw]
    cases this
    exact .refl _

theorem mergeO_ok {c : Bool} {id : Nat} {cl cl1 cl2 : List (Nat × Nat)} {o0 o1 o2 o : SO} (hc1 : ∀ p, p ∈ cl1 → p ∈ cl) (hc2 : ∀ p, p ∈ cl2 → p ∈ cl) (h1 : AgO id cl1 o0 o1) (h2 : AgO id cl2 o0 o2) (h : mergeO c id cl o0 o1 o2 = some o) :
    AgO id cl o0 o ∧ (c = true → ∀ f, LeO (o1.ao f) (o.ao f)) ∧ (c = false → ∀ f, LeO (o2.ao f) (o.ao f)) := by
  unfold mergeO at h
  split at h
  · rename_i cs0 cs1 cs2
    cases h
    obtain ⟨m1, m2, m3⟩ := mergeC_get (c := c) (e0 := cs0) (e1 := cs1) (e2 := cs2) (id := id) cl
    refine ⟨⟨m1, m2⟩, fun e f => ?_, fun e f => ?_⟩
    · refine merged_le (W := fun j => (id, j) ∈ cl) m1 h1.1 (fun j hj => h1.2 j fun e => hj (hc1 _ e)) m2 (fun j hj a b ha hb => ?_) f
      have hl : j < cs0.length := by rw [← h1.1]; exact (List.getElem?_eq_some_iff.1 ha).1
      rw [m3 j hj hl] at hb
      cases hb
      rw [← getD_at ha]
      exact mergeV_le.1 e
    · refine merged_le (W := fun j => (id, j) ∈ cl) m1 h2.1 (fun j hj => h2.2 j fun e => hj (hc2 _ e)) m2 (fun j hj a b ha hb => ?_) f
      have hl : j < cs0.length := by rw [← h2.1]; exact (List.getElem?_eq_some_iff.1 ha).1
      rw [m3 j hj hl] at hb
      cases hb
      rw [← getD_at ha]
      exact mergeV_le.2 e
  · rename_i g0 l0 g1 l1 g2 l2
    obtain ⟨⟨l1', e1⟩, h1⟩ := h1
    obtain ⟨⟨l2', e2⟩, h2⟩ := h2
    cases e1
    cases e2
    split at h
    · rename_i hn
      cases h
      have hno : ∀ cl' : List (Nat × Nat), (∀ p, p ∈ cl' → p ∈ cl) → ∀ off, (id, off) ∉ cl' := fun cl' hcl off hm => by
        have := List.any_eq_false.1 hn _ (hcl _ hm)
        simp at this
      have k1 := h1 (hno _ hc1)
      have k2 := h2 (hno _ hc2)
      cases k1
      cases k2
      exact ⟨.refl _ _ _, fun _ f => .refl _, fun _ f => .refl _⟩
    · rename_i hn
      split at h
      · rename_i hh e
        cases h
        refine ⟨⟨⟨_, rfl⟩, fun hno => ?_⟩, fun e f => ?_, fun e f => ?_⟩
        · obtain ⟨p, hp, hp2⟩ := List.any_eq_true.1 hn
          have : p = (id, p.2) := by rw [← (by simpa using hp2 : p.1 = id)]
          rw [this] at hp
          exact absurd hp (hno _)
        · subst e; exact .refl _
        · subst e; exact .refl _
      · cases h
  · cases h

theorem mergeS_ok {c : Bool} {cl cl1 cl2 : List (Nat × Nat)} (hc1 : ∀ p, p ∈ cl1 → p ∈ cl) (hc2 : ∀ p, p ∈ cl2 → p ∈ cl) : ∀ (id : Nat) (r0 r1 r2 r : List SO), (∀ (k : Nat) o, r0[k]? = some o → ∃ o', r1[k]? = some o' ∧ AgO (id + k) cl1 o o') → (∀ (k : Nat) o, r0[k]? = some o → ∃ o', r2[k]? = some o' ∧ AgO (id + k) cl2 o o') →
    mergeS c cl id r0 r1 r2 = some r → (∀ (k : Nat) o, r0[k]? = some o → ∃ o', r[k]? = some o' ∧ AgO (id + k) cl o o') ∧ (c = true → ∀ f, LeSO f r1 r) ∧ (c = false → ∀ f, LeSO f r2 r)
  | id, [], [], [], r, _, _, h => by
    simp only [mergeS, Option.some.injEq] at h
    subst h
    exact ⟨fun k o ho => by simp at ho, fun _ f => .refl _ _, fun _ f => .refl _ _⟩
  | id, o0 :: r0, o1 :: r1, o2 :: r2, r, h1, h2, h => by
    simp only [mergeS] at h
    split at h
    · rename_i o r' ho hr
      cases h
      obtain ⟨a1, k1, ka⟩ := h1 0 o0 rfl
      obtain ⟨b1, l1, lb⟩ := h2 0 o0 rfl
      simp at k1 l1
      subst k1
      subst l1
      obtain ⟨m1, m2, m3⟩ := mergeO_ok hc1 hc2 ka lb ho
      obtain ⟨n1, n2, n3⟩ := mergeS_ok hc1 hc2 (id + 1) r0 r1 r2 r' (fun k o hk => by
          obtain ⟨o', q1, q2⟩ := h1 (k + 1) o (by simpa using hk)
          exact ⟨o', by simpa using q1, by rw [show id + 1 + k = id + (k + 1) by omega]; exact q2⟩) (fun k o hk => by
          obtain ⟨o', q1, q2⟩ := h2 (k + 1) o (by simpa using hk)
          exact ⟨o', by simpa using q1, by rw [show id + 1 + k = id + (k + 1) by omega]; exact q2⟩) hr
      refine ⟨fun k oo hk => ?_, fun e f => ?_, fun e f => ?_⟩
      · cases k with
        | zero => simp at hk; subst hk; exact ⟨o, rfl, m1⟩
        | succ k =>
          obtain ⟨o', q1, q2⟩ := n1 k oo (by simpa using hk)
          exact ⟨o', by simpa using q1, by rw [show id + (k + 1) = id + 1 + k by omega]; exact q2⟩
      · refine ⟨by simp [(n2 e f).1], fun k a b ha hb => ?_⟩
        cases k with
        | zero => simp at ha hb; subst ha; subst hb; exact m2 e f
        | succ k => exact (n2 e f).2 k a b (by simpa using ha) (by simpa using hb)
      · refine ⟨by simp [(n3 e f).1], fun k a b ha hb => ?_⟩
        cases k with
        | zero => simp at ha hb; subst ha; subst hb; exact m3 e f
        | succ k => exact (n3 e f).2 k a b (by simpa using ha) (by simpa using hb)
    · cases h
  | id, [], [], _ :: _, r, _, _, h => by simp [mergeS] at h
  | id, [], _ :: _, _, r, _, _, h => by simp [mergeS] at h
  | id, _ :: _, [], _, r, _, _, h => by simp [mergeS] at h
  | id, _ :: _, _ :: _, [], r, _, _, h => by simp [mergeS] at h

theorem mergeSt_ok {c : Bool} {s0 s1 s2 m : St} (h1 : Ag s0 s1) (h2 : Ag s0 s2) (h : mergeSt c s0 s1 s2 = some m) : Ag s0 m ∧ (c = true → StLe s1 m) ∧ (c = false → StLe s2 m) := by
  obtain ⟨m1, m2, m3⟩ := mergeEnv_get (c := c) (e0 := s0.env) (e1 := s1.env) (e2 := s2.env) (s1.wl ++ s2.wl)
  have env1 : c = true → ∀ f, LeL (SV.avs f s1.env) (SV.avs f (mergeEnv c s0.env s1.env s2.env (s1.wl ++ s2.wl))) := fun e f => by
    refine merged_le (W := fun j => j ∈ s1.wl ++ s2.wl) m1 h1.len (fun j hj => h1.env j fun e => hj (List.mem_append_left _ e)) m2 (fun j hj a b ha hb => ?_) f
    have hl : j < s0.env.length := by rw [← h1.len]; exact (List.getElem?_eq_some_iff.1 ha).1
    rw [m3 j hj hl] at hb
    cases hb
    rw [← getD_at ha]
    exact mergeV_le.1 e
  have env2 : c = false → ∀ f, LeL (SV.avs f s2.env) (SV.avs f (mergeEnv c s0.env s1.env s2.env (s1.wl ++ s2.wl))) := fun e f => by
    refine merged_le (W := fun j => j ∈ s1.wl ++ s2.wl) m1 h2.len (fun j hj => h2.env j fun e => hj (List.mem_append_right _ e)) m2 (fun j hj a b ha hb => ?_) f
    have hl : j < s0.env.length := by rw [← h2.len]; exact (List.getElem?_eq_some_iff.1 ha).1
    rw [m3 j hj hl] at hb
    cases hb
    rw [← getD_at ha]
    exact mergeV_le.2 e
  unfold mergeSt at h
  split at h
  · rename_i hcl
    cases h
    obtain ⟨c1, c2⟩ := List.append_eq_nil_iff.1 hcl
    have n1 := h1.nil c1
    have n2 := h2.nil c2
    refine ⟨⟨fun j hj => List.mem_append_left _ (h1.wl j hj), fun p hp => (by have := h1.cl p hp; rw [c1] at this; cases this), m1, m2, fun k o hk => ⟨o, hk, .refl _ _ _⟩, fun _ => rfl⟩, fun e f => ⟨env1 e f, ?_⟩, fun e f => ⟨env2 e f, ?_⟩⟩
    · rw [n1]; exact .refl _ _
    · rw [n2]; exact .refl _ _
  · rename_i p cl hcl
    split at h
    · rename_i σ hσ
      cases h
      rw [← hcl] at hσ ⊢
      obtain ⟨n1, n2, n3⟩ := mergeS_ok (fun p hp => List.mem_append_left _ hp) (fun p hp => List.mem_append_right _ hp) 0 _ _ _ _ (fun k o hk => by simpa using h1.obj k o hk) (fun k o hk => by simpa using h2.obj k o hk) hσ
      exact ⟨⟨fun j hj => List.mem_append_left _ (h1.wl j hj), fun p hp => List.mem_append_left _ (h1.cl p hp), m1, m2, fun k o hk => by simpa using n1 k o hk, fun e => (by have e : s1.cl ++ s2.cl = [] := e; rw [hcl] at e; cases e)⟩, fun e f => ⟨env1 e f, n2 e f⟩, fun e f => ⟨env2 e f, n3 e f⟩⟩
    · cases h

/-! ### Trees whose ways were joined -/
theorem nf_den {t : Tree} {g : Option Bool} {s1 : St} (h : nf t = some (g, s1)) {QX : SX → St → Prop} (hg : ∀ b, g = some b → b = true) (hq : QX .normal s1) : den t QX := by
  induction t generalizing g with
  | stuck => cases h
  | leaf x s =>
    cases x with
    | normal => cases h; exact hq
    | exit i => cases h
    | ret => cases h
  | req b t ih =>
    simp only [nf] at h
    split at h
    · rename_i s' e
      cases h
      exact ⟨hg _ rfl, ih e (fun b e => by cases e)⟩
    · rename_i g' s' e
      cases h
      have := hg _ rfl
      rw [Bool.and_eq_true] at this
      exact ⟨this.1, ih e (fun b e => by cases e; exact this.2)⟩
    · cases h
  | ite c a b _ _ => cases h
theorem nf_all {t : Tree} {g : Option Bool} {s1 : St} (h : nf t = some (g, s1)) {A : SX → St → Prop} (ha : allL A t) : A .normal s1 := by
  induction t generalizing g with
  | stuck => cases h
  | leaf x s =>
    cases x with
    | normal => cases h; exact ha
    | exit i => cases h
    | ret => cases h
  | req b t ih =>
    simp only [nf] at h
    split at h
    · rename_i s' e
      cases h
      exact ih e ha
    · rename_i g' s' e
      cases h
      exact ih e ha
    · cases h
  | ite c a b _ _ => cases h

theorem reqO_den {g : Option Bool} {t : Tree} {QX : SX → St → Prop} (h : den (reqO g t) QX) : (∀ b, g = some b → b = true) ∧ den t QX := by
  cases g with
  | none => exact ⟨fun b e => (by cases e), h⟩
  | some g => exact ⟨fun b e => by cases e; exact h.1, h.2⟩

def AgX (s : St) : SX → St → Prop := fun _ s' => Ag s s'

theorem comp_ok {s0 : St} : ∀ (t : Tree), allL (AgX s0) t → allL (AgX s0) (comp s0 t) ∧ ∀ QX : SX → St → Prop, den (comp s0 t) QX → den t (fun x s => ∃ s', StLe s s' ∧ QX x s')
  | .stuck, _ => ⟨trivial, fun QX h => h⟩
  | .leaf x s, ha => ⟨ha, fun QX h => ⟨s, .refl s, h⟩⟩
  | .req g t, ha => by
    obtain ⟨h1, h2⟩ := comp_ok t ha
    exact ⟨h1, fun QX h => ⟨h.1, h2 QX h.2⟩⟩
  | .ite c a b, ha => by
    obtain ⟨a1, a2⟩ := comp_ok a ha.1
    obtain ⟨b1, b2⟩ := comp_ok b ha.2
    have plain : allL (AgX s0) (.ite c (comp s0 a) (comp s0 b)) ∧ ∀ QX : SX → St → Prop, den (.ite c (comp s0 a) (comp s0 b)) QX → den (.ite c a b) (fun x s => ∃ s', StLe s s' ∧ QX x s') :=
      ⟨⟨a1, b1⟩, fun QX h => ⟨fun e => a2 QX (h.1 e), fun e => b2 QX (h.2 e)⟩⟩
    simp only [comp]
    split
    · rename_i g1 s1 g2 s2 e1 e2
      split
      · rename_i m hm
        obtain ⟨k1, k2, k3⟩ := mergeSt_ok (nf_all e1 a1) (nf_all e2 b1) hm
        refine ⟨by cases joinG c g1 g2 <;> exact k1, fun QX h => ?_⟩
        obtain ⟨hg, hq⟩ := reqO_den h
        refine ⟨fun e => ?_, fun e => ?_⟩
        · have h1 : den (comp s0 a) (fun x s => ∃ s', StLe s s' ∧ QX x s') := nf_den e1 (fun b hb => by
            subst hb
            subst e
            cases g2 with
            | none => simpa using hg _ rfl
            | some g2 => simpa using hg _ rfl) ⟨m, k2 e, hq⟩
          exact den_mono (a2 _ h1) fun x s ⟨s', q1, s'', q2, q3⟩ => ⟨s'', q1.trans q2, q3⟩
        · have h1 : den (comp s0 b) (fun x s => ∃ s', StLe s s' ∧ QX x s') := nf_den e2 (fun b hb => by
            subst hb
            subst e
            cases g1 with
            | none => simpa using hg _ rfl
            | some g1 => simpa using hg _ rfl) ⟨m, k3 e, hq⟩
          exact den_mono (b2 _ h1) fun x s ⟨s', q1, s'', q2, q3⟩ => ⟨s'', q1.trans q2, q3⟩
      · exact plain
    · exact plain

theorem logs_den {t : Tree} {s0 : St} {QX : SX → St → Prop} (h : den (t.logs s0) QX) : den t (fun x s => QX x { s with wl := s.wl ++ s0.wl, cl := s.cl ++ s0.cl }) := by
  induction t with
  | stuck => exact h
  | leaf x s => exact h
  | req g t ih => exact ⟨h.1, ih h.2⟩
  | ite c a b iha ihb => exact ⟨fun e => iha (h.1 e), fun e => ihb (h.2 e)⟩
theorem logs_all {t : Tree} {s0 : St} (h : allL (AgX s0.clear) t) : allL (AgX s0) (t.logs s0) := by
  induction t with
  | stuck => trivial
  | leaf x s =>
    have h : Ag s0.clear s := h
    refine ⟨fun j e => List.mem_append_right _ e, fun p e => List.mem_append_right _ e, h.len, fun j hj => h.env j fun e => hj (List.mem_append_left _ e), fun k o ho => ?_, fun e => h.nil (List.append_eq_nil_iff.1 e).1⟩
    obtain ⟨o', h1, h2⟩ := h.obj k o ho
    exact ⟨o', h1, AgO.trans (fun p e => List.mem_append_left _ e) h2 (.refl _ _ _)⟩
  | req g t ih => exact ih h
  | ite c a b iha ihb => exact ⟨iha h.1, ihb h.2⟩

theorem mergeT_ok {F : St → Tree} (hF : ∀ s, allL (AgX s) (F s)) (s : St) : allL (AgX s) (mergeT s F) ∧ (den (mergeT s F) (QD f B Q) → den (F s.clear) (QD f B Q)) := by
  obtain ⟨h1, h2⟩ := comp_ok (s0 := s.clear) _ (hF s.clear)
  refine ⟨logs_all h1, fun h => ?_⟩
  exact den_mono (h2 _ (logs_den h)) fun x s' ⟨s'', q1, q2⟩ => QD.le (show QD f B Q x s'' from q2) q1

/-! ### Code -/
/-- What is told by hand is so. -/
def BlkOK (P : Program) (rs : Option Nat → Prop) (L : Lps) : Code → Prop
  | .seq a b => BlkOK P rs L a ∧ BlkOK P rs L b
  | .block id c => match L id with
    | some k => ∀ (f : Cx) (B : AState) (s : St) (S : AState) (Q : AX → AEnv → AState → Prop), f.x = none → SR f B s.σ S → den (k s) (QD f B Q) → AWp P rs G0 (.block id c) Q (SV.avs f s.env) S
    | none => BlkOK P rs L c
  | .scope c => BlkOK P rs L c
  | .cond _ p q => BlkOK P rs L p ∧ BlkOK P rs L q
  | _ => True

def LAg (L : Lps) : Prop := ∀ id k, L id = some k → ∀ s, allL (AgX s) (k s)

theorem block_den {id : Nat} {t : Tree} (h : den (t.block id) (QD f B Q)) : den t (QD f B (blockQ id Q)) := by
  induction t with
  | stuck => exact h
  | leaf x s =>
    cases x with
    | normal => exact h
    | ret => exact h
    | exit i =>
      simp only [Tree.block] at h
      intro e S1 S2 h1 h2 h3
      simp only [axOf, blockQ]
      split at h
      · rename_i hi
        rw [if_pos hi]
        exact h e S1 S2 h1 h2 h3
      · rename_i hi
        rw [if_neg hi]
        exact h e S1 S2 h1 h2 h3
  | req g t ih => exact ⟨h.1, ih h.2⟩
  | ite c a b iha ihb => exact ⟨fun e => iha (h.1 e), fun e => ihb (h.2 e)⟩
theorem block_all {id : Nat} {t : Tree} {A : St → Prop} (h : allL (fun _ s => A s) t) : allL (fun _ s => A s) (t.block id) := by
  induction t with
  | stuck => trivial
  | leaf x s => cases x <;> simp only [Tree.block] <;> first | exact h | (split <;> exact h)
  | req g t ih => exact ih h
  | ite c a b iha ihb => exact ⟨iha h.1, ihb h.2⟩

theorem nx {t : Tree} {s : St} (h : allL (AgN s) t) : allL (AgX s) t := allL_mono h fun _ _ k => k.2

theorem stake_ag (s : St) (x : Operand) (d : Option Tmp) : allL (AgN s) (stake s x d) := ⟨rfl, (Ag.setPl s x).trans (.put _ _ _)⟩
theorem srgM_ag (ops : List Oper) (s : St) : allL (AgN s) (srgM P T ops s) := by
  unfold srgM
  split
  · exact allL_bind (stake_ag s _ _) (fun s' k => allL_mono (stake_ag s' _ _) fun x s'' k' => ⟨k'.1, k.2.trans k'.2⟩) (fun x s' k _ => k)
  · exact srg_ag ops ops s

theorem run_ag (hL : LAg L) : ∀ (c : Code) (s : St), allL (AgX s) (run P T L c s)
  | .skip, s => Ag.refl s
  | .label _, s => Ag.refl s
  | .exit id, s => Ag.refl s
  | .ret, s => Ag.refl s
  | .goto _, s => trivial
  | .refuse _, s => trivial
  | .loop _, s => trivial
  | .rangeFunc _ _ _ _, s => trivial
  | .seq a b, s => by
    simp only [run]
    exact allL_bind (run_ag hL a s) (fun s' k => allL_mono (run_ag hL b s') fun x s'' k' => Ag.trans k k') (fun x s' k _ => k)
  | .block id c, s => by
    simp only [run]
    split
    · rename_i k hk; exact hL id k hk s
    · exact block_all (run_ag hL c s)
  | .scope c, s => by simp only [run]; exact run_ag hL c s
  | .cond x p q, s => by
    simp only [run]
    split
    · exact run_ag hL p s
    · exact run_ag hL q s
    · rename_i c hc
      exact (mergeT_ok (f := ⟨fun k => k, none⟩) (B := []) (Q := fun _ _ _ => True) (F := fun s => .ite c (run P T L p s) (run P T L q s)) (fun s => ⟨run_ag hL p s, run_ag hL q s⟩) s).1
    · trivial
  | .region _ ⟨ops⟩ false, s => by
    simp only [run]
    exact (mergeT_ok (f := ⟨fun k => k, none⟩) (B := []) (Q := fun _ _ _ => True) (fun s => nx (srgM_ag ops s)) s).1
  | .region _ ⟨ops⟩ true, s => by
    simp only [run]
    exact (mergeT_ok (f := ⟨fun k => k, none⟩) (B := []) (Q := fun _ _ _ => True) (fun s => nx (srgU_ag ops s)) s).1

/-- In a region what is asked is asked of states as they stand. -/
theorem QD_KD {t : Tree} (ha : allL (AgN s) t) (h : den t (QD f B Q)) : den t (KD f B (Q .normal)) :=
  den_mono (den_all h ha) fun x s' ⟨q, k, _⟩ => by
    subst k
    exact ⟨rfl, fun S' hS => q _ S' S' (.refl _) (.refl _) hS⟩

theorem ALe.tup {aa bs : List AV} (h : LeL aa bs) : ALe (.tup aa) (.tup bs) := ⟨fun g v hr => by
  cases hr with
  | tup cs vs hl hR =>
    have hlen : vs.size = bs.length := by rw [hl, h.1]
    have at_ : ∀ (j : Nat) (b : AV) (v : Value), bs[j]? = some b → vs[j]? = some v → ∃ a, aa[j]? = some a ∧ ALe a b ∧ R g.S g.ρ a v := fun j b v hb hv => by
      have hi : j < aa.length := by rw [← h.1]; exact (List.getElem?_eq_some_iff.1 hb).1
      exact ⟨_, List.getElem?_eq_getElem hi, h.2 j _ b (List.getElem?_eq_getElem hi) hb, hR j _ v (List.getElem?_eq_getElem hi) hv⟩
    refine ⟨.tup bs vs hlen fun j b v hb hv => ?_, fun s _ => trivial, fun i ho => ⟨trivial, fun cs' vs' e1 e2 k c' v' hc hv => ?_⟩⟩
    · obtain ⟨a, k1, k2, k3⟩ := at_ j b v hb hv
      exact (k2.h g v k3).1
    · cases e1
      cases e2
      obtain ⟨a, k1, k2, k3⟩ := at_ k c' v' hc hv
      exact (k2.h g v' k3).2.1 _ (ho.2 aa _ rfl rfl k a v' k1 hv)⟩


theorem ALe.agg {aa bs : List AV} (h : LeL aa bs) : ALe (.agg aa) (.agg bs) := ⟨fun g v hr => by
  cases hr with
  | agg cs vs hl hR =>
    refine ⟨.agg bs vs (by rw [hl, h.1]) fun j b v hb hv => ?_, fun s _ => trivial, fun i _ => ⟨trivial, fun cs' vs' e1 => by cases e1⟩⟩
    have hi : j < aa.length := by rw [← h.1]; exact (List.getElem?_eq_some_iff.1 hb).1
    exact ((h.2 j _ b (List.getElem?_eq_getElem hi) hb).h g v (hR j _ v (List.getElem?_eq_getElem hi) hv)).1⟩
theorem ALe.fn (fid : FuncId) {aa bs : List AV} (h : LeL aa bs) : ALe (.fn fid aa) (.fn fid bs) := ⟨fun g v hr => by
  cases hr with
  | fn f cs vs hl hR =>
    refine ⟨.fn fid bs vs (by rw [hl, h.1]) fun j b v hb hv => ?_, fun s _ => trivial, fun i _ => ⟨trivial, fun cs' vs' e1 => by cases e1⟩⟩
    have hi : j < aa.length := by rw [← h.1]; exact (List.getElem?_eq_some_iff.1 hb).1
    exact ((h.2 j _ b (List.getElem?_eq_getElem hi) hb).h g v (hR j _ v (List.getElem?_eq_getElem hi) hv)).1⟩

mutual
theorem pin_le (ff : Nat → Nat) (x : Option Value) : ∀ c : SV, ALe (c.av ⟨ff, x⟩) (c.av ⟨ff, none⟩)
  | .raw c | .tt | .ff | .b x | .i k n | .y x | .s l | .nils | .sl0 | .sl o g l | .pi g l k off | .pm _ _ | .sv _ _ _ | .pv _ _ _ _ => .refl _
  | .agg cs => ALe.agg (pins_le ff x cs)
  | .tup cs => ALe.tup (pins_le ff x cs)
  | .fn g cs => ALe.fn g (pins_le ff x cs)
  | .pin => .u _
theorem pins_le (ff : Nat → Nat) (x : Option Value) : ∀ cs : List SV, LeL (SV.avs ⟨ff, x⟩ cs) (SV.avs ⟨ff, none⟩ cs)
  | [] => .refl _
  | c :: cs => by
    have ih := pins_le ff x cs
    have h0 := pin_le ff x c
    refine ⟨by simp only [SV.avs, List.length_cons, ih.1], fun i a b ha hb => ?_⟩
    cases i with
    | zero => simp [SV.avs] at ha hb; subst ha; subst hb; exact h0
    | succ i => exact ih.2 i a b (by simpa [SV.avs] using ha) (by simpa [SV.avs] using hb)
end

theorem pinO_le (ff : Nat → Nat) (x : Option Value) (o : SO) : LeO (o.ao ⟨ff, x⟩) (o.ao ⟨ff, none⟩) := by
  cases o with
  | cells cs => exact pins_le ff x cs
  | vec g l => exact .refl _

open Classical in
theorem SR.unpin {ff : Nat → Nat} {x : Option Value} {σ : List SO} (hs : SR ⟨ff, x⟩ B σ S) : ∃ S', LeS S S' ∧ SR ⟨ff, none⟩ B σ S' := by
  let pick : Nat → AObj → AObj := fun i o => if h : ∃ k, ∃ h : k < σ.length, ff k = i then (σ[h.choose]'h.choose_spec.choose).ao ⟨ff, none⟩ else o
  have hpick : ∀ k (hk : k < σ.length) o, pick (ff k) o = (σ[k]).ao ⟨ff, none⟩ := fun k hk o => by
    have h : ∃ k', ∃ h : k' < σ.length, ff k' = ff k := ⟨k, hk, rfl⟩
    simp only [pick, dif_pos h]
    have e : h.choose = k := hs.inj _ _ h.choose_spec.choose_spec
    congr 1
    simp only [e]
  have hnone : ∀ i o, (∀ k, k < σ.length → ff k ≠ i) → pick i o = o := fun i o hn => by
    have h : ¬ ∃ k, ∃ h : k < σ.length, ff k = i := fun ⟨k, hk, e⟩ => hn k hk e
    simp only [pick, dif_neg h]
  refine ⟨S.mapIdx pick, ⟨by simp, fun i a b ha hb => ?_⟩, ⟨fun k o hk => ?_, hs.inj, fun j => by simpa using hs.new j, fun i hi hn => ?_, by simpa using hs.len⟩⟩
  · rw [List.getElem?_mapIdx, ha] at hb
    simp only [Option.map_some, Option.some.injEq] at hb
    subst hb
    by_cases h : ∃ k, k < σ.length ∧ ff k = i
    · obtain ⟨k, hk, rfl⟩ := h
      rw [hpick k hk]
      have h1 := hs.obj k _ (List.getElem?_eq_getElem hk)
      have h2 : some a = some ((σ[k]).ao ⟨ff, x⟩) := by rw [← ha]; exact h1
      cases h2
      exact pinO_le ff x _
    · rw [hnone i a fun k hk e => h ⟨k, hk, e⟩]
      exact .refl _
  · have h1 := hs.obj k o hk
    have hkl := (List.getElem?_eq_some_iff.1 hk).1
    rw [List.getElem?_mapIdx]
    show Option.map _ S[ff k]? = _
    rw [show S[ff k]? = some (o.ao ⟨ff, x⟩) from h1]
    simp only [Option.map_some]
    show some (pick (ff k) _) = _
    rw [hpick k hkl]
    congr 2
    have := List.getElem?_eq_getElem hkl
    rw [hk] at this
    exact (Option.some.inj this).symm
  · rw [List.getElem?_mapIdx, hs.old i hi hn]
    cases B[i]? with
    | none => rfl
    | some o => simp only [Option.map_some, hnone i o fun k _ e => hn k e]

theorem ownL_av {g : GT} {c : SV} {l : List g.T} (h : ownL g c = some l) (f : Cx) : ALe (c.av f) (.sl (.yes g.sz) l.length (l.flatMap g.av)) := by
  unfold ownL at h
  split at h
  · cases h; exact .nil _
  · split at h
    · rename_i g' l' hh e
      cases h
      subst hh
      exact .refl _
    · cases h
  · cases h

theorem isPin_eq {c : SV} (h : isPin c = true) : c = .pin := by cases c <;> first | rfl | cases h

theorem awD_mono {G : Nat → AV} {ops : List Oper} {Q1 Q2 : AX → AEnv → AState → Prop} {l : List (Oper × Bool)} {env : AEnv} {σ : AState} (h : awD P G ops Q1 l env σ) (e : Q1 = Q2) : awD P G ops Q2 l env σ := e ▸ h

theorem zip_allL : ∀ ops : List Oper, ops.zip (X.allF ops) = ops.map fun o => (o, freeC o.op)
  | [] => rfl
  | o :: ops => by
    have := zip_allL ops
    simp only [X.allF, List.map_cons, List.zip_cons_cons] at *
    rw [this]

/-- The flags of a region. -/
theorem zip_cf (ops : List Oper) : ∃ fl : Oper → Bool, (∀ o, isLoad o.op = true → fl o = true → (cfOf ops).2 = true) ∧ ops.zip (cfOf ops).1 = ops.map fun o => (o, fl o) := by
  unfold cfOf
  split
  · exact ⟨fun _ => false, fun o _ h => (by cases h), zip_noC ops⟩
  · split
    · refine ⟨fun o => isCallF o.op, fun o hl hc => ?_, zip_allC ops⟩
      have hc : isCallF o.op = true := hc
      unfold isLoad at hl
      split at hl
      · rename_i e
        rw [e] at hc
        cases hc
      · cases hl
    · exact ⟨fun o => freeC o.op, fun _ _ _ => rfl, zip_allL ops⟩

mutual
theorem noPin_same (ff : Nat → Nat) (x y : Option Value) : ∀ c : SV, c.noPin = true → c.av ⟨ff, x⟩ = c.av ⟨ff, y⟩
  | .raw c, _ | .tt, _ | .ff, _ | .b x, _ | .i k n, _ | .y x, _ | .s l, _ | .nils, _ | .sl0, _ | .sl o g l, _ | .pi g l k off, _ | .pm _ _, _ | .sv _ _ _, _ | .pv _ _ _ _, _ => rfl
  | .agg cs, h => by simp only [SV.av, noPins_same ff x y cs h]
  | .tup cs, h => by simp only [SV.av, noPins_same ff x y cs h]
  | .fn g cs, h => by simp only [SV.av, noPins_same ff x y cs h]
  | .pin, h => by cases h
theorem noPins_same (ff : Nat → Nat) (x y : Option Value) : ∀ cs : List SV, SV.noPins cs = true → SV.avs ⟨ff, x⟩ cs = SV.avs ⟨ff, y⟩ cs
  | [], _ => rfl
  | c :: cs, h => by
    simp only [SV.noPins, Bool.and_eq_true] at h
    simp only [SV.avs, noPin_same ff x y c h.1, noPins_same ff x y cs h.2]
end

theorem noPinO_same (ff : Nat → Nat) (x y : Option Value) : ∀ {σ : List SO}, noPinO σ = true → ∀ (k : Nat) o, σ[k]? = some o → o.ao ⟨ff, x⟩ = o.ao ⟨ff, y⟩
  | [], _, k, o, h => by simp at h
  | .cells cs :: r, hn, k, o, h => by
    simp only [noPinO, Bool.and_eq_true] at hn
    cases k with
    | zero => simp at h; subst h; simp only [SO.ao, noPins_same ff x y cs hn.1]
    | succ k => exact noPinO_same ff x y hn.2 k o (by simpa using h)
  | .vec g l :: r, hn, k, o, h => by
    cases k with
    | zero => simp at h; subst h; rfl
    | succ k => exact noPinO_same ff x y (show noPinO r = true from hn) k o (by simpa using h)

theorem SR.repin {ff : Nat → Nat} {x y : Option Value} {σ : List SO} (hn : noPinO σ = true) (hs : SR ⟨ff, x⟩ B σ S) : SR ⟨ff, y⟩ B σ S :=
  ⟨fun k o ho => by rw [← noPinO_same ff x y hn k o ho]; exact hs.obj k o ho, hs.inj, hs.new, hs.old, hs.len⟩

theorem wipe_σ : ∀ (l : List Oper) (s : St), (wipe l s).σ = s.σ
  | [], s => rfl
  | o :: r, s => by
    simp only [wipe]
    rw [wipe_σ r]
    split
    · split <;> rfl
    · rfl
theorem wipe_le (f : Cx) : ∀ (l : List Oper) (s : St), LeL (SV.avs f s.env) (SV.avs f (wipe l s).env)
  | [], s => .refl _
  | o :: r, s => by
    simp only [wipe]
    refine LeL.trans ?_ (wipe_le f r _)
    split
    · rename_i d hd
      split
      · have e : SV.avs f (s.set d (.raw .u)).env = (SV.avs f s.env).set d .u := avs_set _ _ _ _
        rw [e]
        refine ⟨by rw [List.length_set], fun i a b ha hb => ?_⟩
        by_cases h : d = i
        · subst h
          rw [List.getElem?_set_self (List.getElem?_eq_some_iff.1 ha).1] at hb
          cases hb
          exact .u _
        · rw [List.getElem?_set_ne h, ha] at hb
          cases hb
          exact .refl _
      · exact .refl _
    · exact .refl _

theorem LeL.set1 {l : List AV} {t : Nat} {c d : AV} (h : l[t]? = some c) (hl : ALe c d) : LeL l (l.set t d) := by
  refine ⟨by rw [List.length_set], fun i a b ha hb => ?_⟩
  by_cases e : t = i
  · subst e
    rw [List.getElem?_set_self (List.getElem?_eq_some_iff.1 ha).1] at hb
    rw [h] at ha
    cases ha
    cases hb
    exact hl
  · rw [List.getElem?_set_ne e, ha] at hb
    cases hb
    exact .refl _

theorem getD_pin {l : List SV} {t : Nat} (h : l.getD t (.raw .u) = .pin) : l[t]? = some .pin := by
  rw [List.getD_eq_getElem?_getD] at h
  cases e : l[t]? with
  | none => rw [e] at h; cases h
  | some c => rw [e] at h; simp only [Option.getD_some] at h; rw [h]

theorem srgA_ok (hf0 : f.x = none) (hm : P.follows .mixedOrders = true) (hT : TabOK P T) {id : Nat} {ops : List Oper} {m : Nat} (hok : okD (ops.take m) (befD (ops.take m)) (cfOf (ops.take m)).1 = true) (hsuf : sufOK ops m = true) (hs : SR f B s.σ S) (h : den (srgA P T ops m s) (KD f B (Q .normal))) :
    AWp P rs G0 (.region id ⟨ops⟩ true) Q (SV.avs f s.env) S := by
  obtain ⟨ff, xx⟩ := f
  simp only at hf0
  subst hf0
  obtain ⟨fl, hfll, hfl⟩ := zip_cf (ops.take m)
  -- what follows the first operations
  have fin : ∀ (x : Value) (s1 s2 : St) (k : St → Tree) (g1 : Gh) (w1 : World) (g0 : Gh) (w0 : World) (D : List Deferred) (a' : Act) (w' : World) (e' : AEnv) (S1 S2 : AState), e' = SV.avs ⟨ff, some x⟩ s2.env → SR ⟨ff, some x⟩ B s2.σ S2 → den (srg P T ops (ops.drop m) (wipe (ops.take m) s2)) (KD ⟨ff, none⟩ B (Q .normal)) → Inv g0 w0 D e' S2 a' w' →
      ∃ e' s', Inv g0 w0 D e' s' a' w' ∧ awOps P G0 ops Q (ops.drop m) e' s' := by
    intro x s1 s2 k g1 w1 g0 w0 D a' w' e' S1 S2 he hs2 hd hi
    obtain ⟨S3, k1, k2⟩ := hs2.unpin
    refine ⟨_, S3, Inv.le hi (LeL.trans (by rw [he]; exact pins_le ff _ _) (wipe_le ⟨ff, none⟩ (ops.take m) s2)) k1, ?_⟩
    exact srg_ok hT _ _ S3 (by rw [wipe_σ]; exact k2) hd
  unfold srgA at h
  split at h
  · rename_i hnp
    rw [Bool.and_eq_true] at hnp
    split at h
    · rename_i tb g hbase
      split at h
      · rename_i t hd
        split at h
        · rename_i l hl htl
          rw [decide_eq_true_eq] at htl
          have hbd := den_bind h
          refine AWp.drawX m (cfOf (ops.take m)).1 hm hok hsuf fun g0 w0 D a w hG hi => ?_
          have hat : (SV.avs ⟨ff, none⟩ s.env)[t]? = some ((s.get t).av ⟨ff, none⟩) := by
            rw [avs_get, St.get, List.getD_eq_getElem?_getD, List.getElem?_eq_getElem htl]; rfl
          obtain ⟨x, g1, q1, q2, q3⟩ := pin_tmp hG (Inv.le hi (LeL.set1 hat (ownL_av hl ⟨ff, none⟩)) (.refl _)) (t := t) (List.getElem?_set_self (by rw [avs_len]; exact htl))
          rw [List.set_set, noPins_same ff none (some x) _ hnp.1] at q2
          have hpx : SV.avs ⟨ff, some x⟩ (s.set t .pin).env = (SV.avs ⟨ff, some x⟩ s.env).set t (.val x) := avs_set _ _ _ _
          rw [← hpx] at q2
          refine ⟨g1, w, _, S, fun e s' => ∃ s1 : St, e = SV.avs ⟨ff, some x⟩ s1.env ∧ SR ⟨ff, some x⟩ B s1.σ s' ∧ den (match isPin (s1.get t) && isPin (s1.get tb) && decide (t ≠ tb) with
            | true => srg P T ops (ops.drop m) (wipe (ops.take m) ((s1.set t (.sl false g l)).set tb (.sl true g l)))
            | false => .stuck) (KD ⟨ff, none⟩ B (Q .normal)), q1, q2, ?_, ?_⟩
          · rw [hfl]
            refine srgD_ok hT fl hfll _ (s.set t .pin) S (hs.repin hnp.2) (den_mono (den_all hbd (srgD_ag _ _ _ _)) fun ax s1 hq => ?_)
            obtain ⟨hq, ha, _⟩ := hq
            subst ha
            exact ⟨rfl, fun S' hS' => ⟨s1, rfl, hS', hq⟩⟩
          · rintro e s' a' w' ⟨s1, rfl, hS', hq⟩ hi'
            split at hq
            · rename_i hc
              simp only [Bool.and_eq_true, decide_eq_true_eq] at hc
              obtain ⟨⟨c1, c2⟩, c3⟩ := hc
              have p1 : s1.env[t]? = some .pin := getD_pin (isPin_eq c1)
              have p2 : s1.env[tb]? = some .pin := getD_pin (isPin_eq c2)
              have r1 : (SV.avs ⟨ff, some x⟩ s1.env)[t]? = some (.val x) := by rw [avs_get, p1]; rfl
              have r2 : (SV.avs ⟨ff, some x⟩ s1.env)[tb]? = some (.val x) := by rw [avs_get, p2]; rfl
              have hi2 := q3 _ s' a' w' tb (((SV.avs ⟨ff, some x⟩ s1.env).set t (.sl .no l.length (l.flatMap g.av))).set tb (.sl (.yes g.sz) l.length (l.flatMap g.av))) hi' r2 (by rw [List.length_set, List.length_set]) (fun i hit c hc => by
                rw [List.getElem?_set_ne (Ne.symm hit)] at hc
                by_cases e : t = i
                · subst e
                  rw [List.getElem?_set_self (List.getElem?_eq_some_iff.1 r1).1] at hc
                  cases hc
                  exact .inr ⟨r1, rfl⟩
                · rw [List.getElem?_set_ne e] at hc
                  exact .inl hc) (List.getElem?_set_self (by rw [List.length_set]; exact (List.getElem?_eq_some_iff.1 r2).1))
              refine fin x s1 ((s1.set t (.sl false g l)).set tb (.sl true g l)) (fun _ => .stuck) g1 w g0 w0 D a' w' _ s' s' ?_ hS' hq hi2
              have u1 : SV.avs ⟨ff, some x⟩ ((s1.set t (.sl false g l)).set tb (.sl true g l)).env = (SV.avs ⟨ff, some x⟩ (s1.set t (.sl false g l)).env).set tb (.sl (.yes g.sz) l.length (l.flatMap g.av)) := avs_set _ _ _ _
              have u2 : SV.avs ⟨ff, some x⟩ (s1.set t (.sl false g l)).env = (SV.avs ⟨ff, some x⟩ s1.env).set t (.sl .no l.length (l.flatMap g.av)) := avs_set _ _ _ _
              rw [u1, u2]
            · exact hq.elim
        · exact h.elim
      · rename_i t ta hd
        split at h
        · rename_i oid off hadr
          split at h
          · rename_i cs hcs
            split at h
            · rename_i c hc
              split at h
              · rename_i l hl
                have hbd := den_bind h
                refine AWp.drawX m (cfOf (ops.take m)).1 hm hok hsuf fun g0 w0 D a w hG hi => ?_
                have hob := hs.cells hcs
                have hoid := (List.getElem?_eq_some_iff.1 hcs).1
                have hat : (SV.avs ⟨ff, none⟩ cs)[off]? = some (c.av ⟨ff, none⟩) := by rw [avs_get, hc]; rfl
                have hleS : LeS S (S.set (ff oid) (.cells ((SV.avs ⟨ff, none⟩ cs).set off (.sl (.yes g.sz) l.length (l.flatMap g.av))))) := by
                  refine ⟨by rw [List.length_set], fun i p q hp hq => ?_⟩
                  by_cases e : ff oid = i
                  · subst e
                    rw [List.getElem?_set_self (List.getElem?_eq_some_iff.1 hp).1] at hq
                    rw [show S[ff oid]? = _ from hob] at hp
                    cases hp
                    cases hq
                    exact LeL.set1 hat (ownL_av hl ⟨ff, none⟩)
                  · rw [List.getElem?_set_ne e, hp] at hq
                    cases hq
                    exact .refl _
                have hlt2 : ff oid < S.length := (List.getElem?_eq_some_iff.1 hob).1
                obtain ⟨x, g1, q1, q2, q3⟩ := pin_cell hG (Inv.le hi (.refl _) hleS) (id := ff oid) (off := off) (List.getElem?_set_self hlt2) (List.getElem?_set_self (List.getElem?_eq_some_iff.1 hat).1)
                rw [List.set_set, List.set_set, noPins_same ff none (some x) _ hnp.1] at q2
                have hnc : SV.noPins cs = true := by
                  have : ∀ (σ : List SO) (k : Nat), noPinO σ = true → σ[k]? = some (.cells cs) → SV.noPins cs = true := by
                    intro σ
                    induction σ with
                    | nil => intro k _ h; simp at h
                    | cons o r ih =>
                      intro k hn h
                      cases k with
                      | zero => simp at h; subst h; simp only [noPinO, Bool.and_eq_true] at hn; exact hn.1
                      | succ k =>
                        refine ih k ?_ (by simpa using h)
                        cases o with
                        | cells cs' => simp only [noPinO, Bool.and_eq_true] at hn; exact hn.2
                        | vec g l => exact hn
                  exact this _ oid hnp.2 hcs
                rw [noPins_same ff none (some x) _ hnc] at q2
                have hS1 : SR ⟨ff, some x⟩ B (s.setC oid off cs .pin).σ (S.set (ff oid) (.cells ((SV.avs ⟨ff, some x⟩ cs).set off (.val x)))) := by
                  have := (SR.repin (y := some x) hnp.2 hs).set hoid (.cells (cs.set off .pin))
                  simp only [SO.ao, avs_set] at this
                  exact this
                refine ⟨g1, w, _, _, fun e s' => ∃ s1 : St, e = SV.avs ⟨ff, some x⟩ s1.env ∧ SR ⟨ff, some x⟩ B s1.σ s' ∧ den (match s1.σ[oid]? with
                    | some (.cells cs1) => match isPin (cs1.getD off (.raw .u)) && isPin (s1.get tb) with
                      | true => srg P T ops (ops.drop m) (wipe (ops.take m) ((s1.setC oid off cs1 (.sl false g l)).set tb (.sl true g l)))
                      | false => .stuck
                    | _ => .stuck) (KD ⟨ff, none⟩ B (Q .normal)), q1, q2, ?_, ?_⟩
                · rw [hfl]
                  refine srgD_ok hT fl hfll _ (s.setC oid off cs .pin) _ hS1 (den_mono (den_all hbd (srgD_ag _ _ _ _)) fun ax s1 hq => ?_)
                  obtain ⟨hq, ha, _⟩ := hq
                  subst ha
                  exact ⟨rfl, fun S' hS' => ⟨s1, rfl, hS', hq⟩⟩
                · rintro e s' a' w' ⟨s1, rfl, hS', hq⟩ hi'
                  split at hq
                  · rename_i cs1 hcs1
                    split at hq
                    · rename_i hcc
                      rw [Bool.and_eq_true] at hcc
                      have p1 : cs1[off]? = some .pin := getD_pin (isPin_eq hcc.1)
                      have p2 : s1.env[tb]? = some .pin := getD_pin (isPin_eq hcc.2)
                      have r1 : (SV.avs ⟨ff, some x⟩ cs1)[off]? = some (.val x) := by rw [avs_get, p1]; rfl
                      have r2 : (SV.avs ⟨ff, some x⟩ s1.env)[tb]? = some (.val x) := by rw [avs_get, p2]; rfl
                      have hi2 := q3 _ s' a' w' tb ((SV.avs ⟨ff, some x⟩ s1.env).set tb (.sl (.yes g.sz) l.length (l.flatMap g.av))) _ hi' (hS'.cells hcs1) r1 r2 (by rw [List.length_set]) (fun i hit c hc => by
                        rw [List.getElem?_set_ne (Ne.symm hit)] at hc
                        exact .inl hc) (List.getElem?_set_self (List.getElem?_eq_some_iff.1 r2).1)
                      have hS2 : SR ⟨ff, some x⟩ B ((s1.setC oid off cs1 (.sl false g l)).set tb (.sl true g l)).σ (s'.set (ff oid) (.cells ((SV.avs ⟨ff, some x⟩ cs1).set off (.sl .no l.length (l.flatMap g.av))))) := by
                        have := hS'.set (List.getElem?_eq_some_iff.1 hcs1).1 (.cells (cs1.set off (.sl false g l)))
                        simp only [SO.ao, avs_set] at this
                        exact this
                      have u1 : SV.avs ⟨ff, some x⟩ ((s1.setC oid off cs1 (.sl false g l)).set tb (.sl true g l)).env = (SV.avs ⟨ff, some x⟩ s1.env).set tb (.sl (.yes g.sz) l.length (l.flatMap g.av)) := avs_set _ _ _ _
                      exact fin x s1 _ (fun _ => .stuck) g1 w g0 w0 D a' w' _ s' _ u1.symm hS2 hq hi2
                    · exact hq.elim
                  · exact hq.elim
              · exact h.elim
            · exact h.elim
          · exact h.elim
        · exact h.elim
      · exact h.elim
    · exact h.elim
  · exact h.elim

theorem srgU_ok (hf0 : f.x = none) (hm : P.follows .mixedOrders = true) (hT : TabOK P T) {id : Nat} {ops : List Oper} (hs : SR f B s.σ S) (h : den (srgU P T ops s) (KD f B (Q .normal))) : AWp P rs G0 (.region id ⟨ops⟩ true) Q (SV.avs f s.env) S := by
  unfold srgU at h
  split at h
  · split at h
    · rename_i hok
      rw [Bool.and_eq_true] at hok
      exact srgA_ok hf0 hm hT hok.1 hok.2 hs h
    · cases h
  · split at h
    · rename_i hok
      obtain ⟨fl, h1, h2⟩ := zip_cf ops
      refine AWp.draw _ _ hm hok ?_
      rw [h2]
      exact srgD_ok hT fl h1 _ s S hs h
    · cases h

theorem movedOf_ok {ops : List Oper} {x : Operand} {d : Tmp} {e : Option Tmp} (h : movedOf ops = some (x, d, e)) : ∃ o1 o2 : Oper, ops = [o1, o2] ∧ o1.op = .move x ∧ o1.dst = some d ∧ o1.guard = none ∧ o2.op = .assign (.tmp d) ∧ o2.guard = none ∧ o2.dst = e := by
  unfold movedOf at h
  split at h
  · rename_i o1 o2
    split at h
    · rename_i x' d' d'' h1 h2 h3 h4 h5
      split at h
      · rename_i hd
        rw [decide_eq_true_eq] at hd
        subst hd
        cases h
        exact ⟨o1, o2, rfl, h1, h2, h3, h4, h5, rfl⟩
      · cases h
    · cases h
  · cases h
theorem srgM_ok (hT : TabOK P T) {id : Nat} {ops : List Oper} (hs : SR f B s.σ S) (h : den (srgM P T ops s) (KD f B (Q .normal))) : AWp P rs G0 (.region id ⟨ops⟩ false) Q (SV.avs f s.env) S := by
  unfold srgM at h
  split at h
  · rename_i x d e hm
    obtain ⟨o1, o2, rfl, h1, h2, h3, h4, h5, rfl⟩ := movedOf_ok hm
    refine AWp.moved h1 h2 h3 h4 h5 (stake_ok hs ?_)
    simp only [stake, ok, Tree.bind, den] at h ⊢
    refine ⟨rfl, fun S' hS => stake_ok hS ?_⟩
    exact h
  · exact AWp.text (srg_ok hT ops s S hs h)


theorem run_ok (hf0 : f.x = none) (hm : P.follows .mixedOrders = true) (hT : TabOK P T) (hL : LAg L) : ∀ (c : Code) (Q : AX → AEnv → AState → Prop) (s : St) (S : AState), BlkOK P rs L c → SR f B s.σ S → den (run P T L c s) (QD f B Q) → AWp P rs G0 c Q (SV.avs f s.env) S
  | .skip, Q, s, S, _, hs, h => AWp.skip (h _ S S (.refl _) (.refl _) hs)
  | .label _, Q, s, S, _, hs, h => AWp.label (h _ S S (.refl _) (.refl _) hs)
  | .exit id, Q, s, S, _, hs, h => AWp.exit (h _ S S (.refl _) (.refl _) hs)
  | .ret, Q, s, S, _, hs, h => AWp.ret (h _ S S (.refl _) (.refl _) hs)
  | .goto _, Q, s, S, _, hs, h => h.elim
  | .refuse _, Q, s, S, _, hs, h => h.elim
  | .loop _, Q, s, S, _, hs, h => h.elim
  | .rangeFunc _ _ _ _, Q, s, S, _, hs, h => h.elim
  | .seq a b, Q, s, S, hb, hs, h => by
    simp only [run] at h
    refine AWp.seq (run_ok hf0 hm hT hL a _ s S hb.1 hs (den_mono (den_bind h) fun x s' h' => ?_))
    cases x with
    | normal =>
      intro e S1 S2 h1 h2 h3
      exact AWp.le (run_ok hf0 hm hT hL b Q s' S2 hb.2 h3 h') h1 h2
    | exit i => exact h'
    | ret => exact h'
  | .block id c, Q, s, S, hb, hs, h => by
    simp only [run] at h
    simp only [BlkOK] at hb
    split at h
    · rename_i k hk
      rw [hk] at hb
      exact hb f B s S Q hf0 hs h
    · rename_i hk
      rw [hk] at hb
      exact AWp.block (run_ok hf0 hm hT hL c _ s S hb hs (block_den h))
  | .scope c, Q, s, S, hb, hs, h => by
    simp only [run] at h
    refine AWp.scope (run_ok hf0 hm hT hL c _ s S hb hs (den_mono h fun x s' h' => ?_))
    cases x <;> exact h'
  | .cond x p q, Q, s, S, hb, hs, h => by
    simp only [run] at h
    split at h
    · rename_i hx
      exact AWp.cond (b := true) (by rw [sev_av, hx]; rfl) (fun _ => run_ok hf0 hm hT hL p Q s S hb.1 hs h) (fun e => by cases e)
    · rename_i hx
      exact AWp.cond (b := false) (by rw [sev_av, hx]; rfl) (fun e => by cases e) (fun _ => run_ok hf0 hm hT hL q Q s S hb.2 hs h)
    · rename_i c hx
      have h2 := (mergeT_ok (F := fun s => .ite c (run P T L p s) (run P T L q s)) (fun s => ⟨run_ag hL p s, run_ag hL q s⟩) s).2 h
      exact AWp.cond (b := c) (by rw [sev_av, hx]; rfl) (fun e => run_ok hf0 hm hT hL p Q s.clear S hb.1 hs (h2.1 e)) (fun e => run_ok hf0 hm hT hL q Q s.clear S hb.2 hs (h2.2 e))
    · cases h
  | .region _ ⟨ops⟩ false, Q, s, S, _, hs, h => by
    simp only [run] at h
    have h2 := (mergeT_ok (fun s => nx (srgM_ag ops s)) s).2 h
    exact srgM_ok (s := s.clear) hT hs (QD_KD (srgM_ag ops s.clear) h2)
  | .region _ ⟨ops⟩ true, Q, s, S, _, hs, h => by
    simp only [run] at h
    have h2 := (mergeT_ok (fun s => nx (srgU_ag ops s)) s).2 h
    exact srgU_ok (s := s.clear) hf0 hm hT hs (QD_KD (srgU_ag ops s.clear) h2)
end Go.Proofs.Ytoofpdmdgofdcaa.X

namespace Go.Proofs.Ytoofpdmdgofdcaa.X
open Go Go.RowKit Go.Proofs.Ytoofpdmdgofdcaa.E
set_option linter.unusedVariables false
set_option linter.unusedSimpArgs false

variable {P : Program} {f : Cx} {B S : AState} {s : St} {K : AEnv → AState → Prop} {Q : AX → AEnv → AState → Prop} {T : Tab} {L : Lps} {rs : Option Nat → Prop}

/-- What is told less. -/
def wkQ (Q : AX → AEnv → AState → Prop) : AX → AEnv → AState → Prop := fun x e S => ∃ e' S', LeL e e' ∧ LeS S S' ∧ Q x e' S'

theorem AWp.wk {G : Nat → AV} {c : Code} {env : AEnv} {σ : AState} (h : AWp P rs G c (wkQ Q) env σ) : AWp P rs G c Q env σ := fun g0 w0 D r n a w hr h1 h2 h3 =>
  wpIn_mono (h g0 w0 D r n a w hr h1 h2 h3) fun e a' w' q => by
    cases e with
    | normal => obtain ⟨e, s, ⟨e', s', k1, k2, k3⟩, q2⟩ := q; exact ⟨e', s', k3, Inv2.le q2 k1 k2⟩
    | exit id => obtain ⟨e, s, ⟨e', s', k1, k2, k3⟩, q2⟩ := q; exact ⟨e', s', k3, Inv2.le q2 k1 k2⟩
    | goto l => obtain ⟨e, s, ⟨e', s', k1, k2, k3⟩, q2⟩ := q; exact ⟨e', s', k3, Inv2.le q2 k1 k2⟩
    | ret => obtain ⟨e, s, ⟨e', s', k1, k2, k3⟩, q2⟩ := q; exact ⟨e', s', k3, Inv2.le q2 k1 k2⟩
    | panic ch =>
      obtain ⟨x, v, e, s, g, ms, k0, ⟨e', s', k1, k2, k3⟩, q1, q2, q3, q4, q5⟩ := q
      exact ⟨x, v, e', s', g, ms, k0, k3, q1, q2, q3, Sim.le q4 k2, q5⟩
    | outgrown => exact q

/-- What is asked of an end, where its state is told. -/
def QF (f : Cx) (B : AState) (Q : AX → AEnv → AState → Prop) : SX → St → Prop := fun x s' => ∀ S2, SR f B s'.σ S2 → Q (axOf x) (SV.avs f s'.env) S2

theorem QF.qd {x : SX} {s' : St} (h : QF f B Q x s') : QD f B (wkQ Q) x s' := fun e S1 S2 h1 h2 h3 => ⟨_, S2, h1, h2, h S2 h3⟩

theorem run_fin (hf0 : f.x = none) (hm : P.follows .mixedOrders = true) (hT : TabOK P T) (hL : LAg L) {c : Code} (hb : BlkOK P rs L c) (hs : SR f B s.σ S) (h : den (run P T L c s) (QF f B Q)) : AWp P rs G0 c Q (SV.avs f s.env) S :=
  AWp.wk (run_ok hf0 hm hT hL c _ s S hb hs (den_mono h fun x s' q => q.qd))

/-! ### Results -/
mutual
/-- It names no memory of the run. -/
def SV.pure : SV → Bool
  | .raw c => match c with
    | .u | .nilp | .nilfn | .nilif | .nilmap => true
    | _ => false
  | .agg cs => SV.pures cs
  | .tup cs => SV.pures cs
  | .fn _ cs => SV.pures cs
  | .pm _ _ | .sv _ _ _ | .pv _ _ _ _ | .pin => false
  | _ => true
def SV.pures : List SV → Bool
  | [] => true
  | c :: cs => SV.pure c && SV.pures cs
end

mutual
theorem pure_same (f f' : Cx) : ∀ c : SV, c.pure = true → c.av f = c.av f'
  | .raw c, h => rfl
  | .tt, h => rfl
  | .ff, h => rfl
  | .b x, h => rfl
  | .i k n, h => rfl
  | .y x, h => rfl
  | .s l, h => rfl
  | .nils, h => rfl
  | .sl0, h => rfl
  | .sl o g l, h => rfl
  | .pi g l k off, h => rfl
  | .agg cs, h => by simp only [SV.av, pures_same f f' cs h]
  | .tup cs, h => by simp only [SV.av, pures_same f f' cs h]
  | .fn g cs, h => by simp only [SV.av, pures_same f f' cs h]
  | .pm _ _, h => by cases h
  | .sv _ _ _, h => by cases h
  | .pv _ _ _ _, h => by cases h
  | .pin, h => by cases h
theorem pures_same (f f' : Cx) : ∀ cs : List SV, SV.pures cs = true → SV.avs f cs = SV.avs f' cs
  | [], h => rfl
  | c :: cs, h => by
    simp only [SV.pures, Bool.and_eq_true] at h
    simp only [SV.avs, pure_same f f' c h.1, pures_same f f' cs h.2]
end

theorem av_clean (n : Nat) : ∀ (g : GT) (x : g.T), cleanL n (g.av x) = true
  | .bool, x => rfl
  | .int k, x => rfl
  | .byte, x => rfl
  | .str, x => rfl
  | .unit, x => rfl
  | .pair a b, x => cleanL_of fun c hc => by
    simp only [GT.av, List.mem_append] at hc
    rcases hc with hc | hc
    · obtain ⟨j, hj⟩ := List.getElem?_of_mem hc; exact cleanL_iff.1 (av_clean n a x.1) j c hj
    · obtain ⟨j, hj⟩ := List.getElem?_of_mem hc; exact cleanL_iff.1 (av_clean n b x.2) j c hj
  | .list a, l => by
    have : cleanL n (List.flatMap a.av l) = true := cleanL_of fun c hc => by
      obtain ⟨x, _, hx⟩ := List.mem_flatMap.1 hc
      obtain ⟨j, hj⟩ := List.getElem?_of_mem hx
      exact cleanL_iff.1 (av_clean n a x) j c hj
    simp only [GT.av, cleanL, clean, this, Bool.and_self]
theorem fl_clean (n : Nat) (g : GT) (l : List g.T) : cleanL n (l.flatMap g.av) = true := cleanL_of fun c hc => by
  obtain ⟨x, _, hx⟩ := List.mem_flatMap.1 hc
  obtain ⟨j, hj⟩ := List.getElem?_of_mem hx
  exact cleanL_iff.1 (av_clean n g x) j c hj

mutual
theorem pure_clean (n : Nat) (f : Cx) : ∀ c : SV, c.pure = true → clean n (c.av f) = true
  | .raw c, h => by
    simp only [SV.pure] at h
    split at h <;> first | rfl | cases h
  | .tt, h => rfl
  | .ff, h => rfl
  | .b x, h => rfl
  | .i k n, h => rfl
  | .y x, h => rfl
  | .s l, h => rfl
  | .nils, h => rfl
  | .sl0, h => rfl
  | .sl o g l, h => by simp only [SV.av, clean]; exact fl_clean n g l
  | .pi g l k off, h => by simp only [SV.av, clean]; exact fl_clean n g l
  | .agg cs, h => by simp only [SV.av, clean]; exact pures_clean n f cs h
  | .tup cs, h => by simp only [SV.av, clean]; exact pures_clean n f cs h
  | .fn g cs, h => by simp only [SV.av, clean]; exact pures_clean n f cs h
  | .pm _ _, h => by cases h
  | .sv _ _ _, h => by cases h
  | .pv _ _ _ _, h => by cases h
  | .pin, h => by cases h
theorem pures_clean (n : Nat) (f : Cx) : ∀ cs : List SV, SV.pures cs = true → cleanL n (SV.avs f cs) = true
  | [], h => rfl
  | c :: cs, h => by
    simp only [SV.pures, Bool.and_eq_true] at h
    simp only [SV.avs, cleanL, pure_clean n f c h.1, pures_clean n f cs h.2, Bool.and_self]
end

theorem pure_frz0 (n : Nat) (σ : AState) (f : Cx) {c : SV} (h : c.pure = true) : frz0 n σ (c.av f) = c.av f := by
  cases c with
  | raw c =>
    simp only [SV.pure] at h
    split at h <;> first | rfl | cases h
  | pm _ _ => cases h
  | sv _ _ _ => cases h
  | pv _ _ _ _ => cases h
  | pin => cases h
  | _ => rfl
theorem pures_frz0 (n : Nat) (σ : AState) (f : Cx) : ∀ cs : List SV, SV.pures cs = true → (SV.avs f cs).map (frz0 n σ) = SV.avs f cs
  | [], h => rfl
  | c :: cs, h => by
    simp only [SV.pures, Bool.and_eq_true] at h
    simp only [SV.avs, List.map_cons, pure_frz0 n σ f h.1, pures_frz0 n σ f cs h.2]
theorem pure_frz (n : Nat) (σ : AState) (f : Cx) {c : SV} (h : c.pure = true) : frz n σ (c.av f) = c.av f := by
  unfold frz
  cases c with
  | fn g cs => simp only [SV.av, pures_frz0 n σ f cs h]
  | raw c =>
    simp only [SV.pure] at h
    split at h <;> first | rfl | cases h
  | pm _ _ => cases h
  | sv _ _ _ => cases h
  | pv _ _ _ _ => cases h
  | pin => cases h
  | _ => rfl

/-- A result, as it is left: with what has to hold for it. -/
def sleft (s : St) (c : SV) : VR :=
  match c with
  | .sv z id n => match s.σ[id]? with
    | some (.vec g l) => match decide (z = g.sz) with
      | true => .req (decide (n ≤ l.length)) (.sl false g (List.take n l))
      | false => .no
    | _ => .no
  | c => match c.pure with
    | true => .val c
    | false => .no

/-- What a function gives, way by way. -/
inductive RT where
  | stuck
  | val (vs : List SV)
  | req (g : Bool) (t : RT)
  | ite (c : Bool) (a b : RT)

def denR : RT → (List SV → Prop) → Prop
  | .stuck, _ => False
  | .val vs, Q => Q vs
  | .req g t, Q => g = true ∧ denR t Q
  | .ite c a b, Q => (c = true → denR a Q) ∧ (c = false → denR b Q)

/-- The results, one by one. -/
def sres (P : Program) (s : St) : List ResultVar → (List SV → RT) → RT
  | [], K => K []
  | .tmp t :: r, K => match sleft s (s.get t) with
    | .no => .stuck
    | .val v => sres P s r fun vs => K (v :: vs)
    | .req g v => .req g (sres P s r fun vs => K (v :: vs))
  | .cell a t :: r, K => match s.get a with
    | .pm id off => match sload P s t (.pm id off) with
      | .no => .stuck
      | .val v => match sleft s v with
        | .no => .stuck
        | .val v => sres P s r fun vs => K (v :: vs)
        | .req g v => .req g (sres P s r fun vs => K (v :: vs))
      | .req _ _ => .stuck
    | _ => .stuck

def retT (P : Program) (rv : List ResultVar) : Tree → RT
  | .stuck => .stuck
  | .leaf x s => match x with
    | .exit _ => .stuck
    | _ => sres P s rv .val
  | .req g t => .req g (retT P rv t)
  | .ite c a b => .ite c (retT P rv a) (retT P rv b)

theorem sleft_ok (hs : SR f B s.σ S) (hB : ∀ k, B.length ≤ f k) {c v : SV} (h : sleft s c = .val v ∨ sleft s c = .req true v) : frz B.length S (c.av f) = v.av f ∧ v.pure = true := by
  unfold sleft at h
  split at h
  · rename_i z id n
    split at h
    · rename_i g l hv
      split at h
      · rename_i hz
        rw [decide_eq_true_eq] at hz
        subst hz
        rcases h with h | h
        · cases h
        · obtain ⟨h1, h2⟩ := VR.req.inj h
          subst h2
          rw [decide_eq_true_eq] at h1
          refine ⟨?_, rfl⟩
          have := hB id
          simp only [SV.av, frz, frz0, if_neg (Nat.not_lt.2 this), hs.vec hv, List.drop_zero, fl_take, List.length_take, Nat.min_eq_left h1]
      · rcases h with h | h <;> cases h
    · rcases h with h | h <;> cases h
  · split at h
    · rename_i hp
      rcases h with h | h
      · cases h
        exact ⟨pure_frz _ _ _ hp, hp⟩
      · cases h
    · rcases h with h | h <;> cases h

/-- All are pure. -/
theorem sres_ok (hs : SR f B s.σ S) (hB : ∀ k, B.length ≤ f k) {QR : List SV → Prop} : ∀ (rv : List ResultVar) (K : List SV → RT), denR (sres P s rv K) QR → ∀ KA : List AV → Prop, (∀ vs, SV.pures vs = true → denR (K vs) QR → ∀ cs, cs.map (frz B.length S) = SV.avs f vs → KA cs) → aresults P (SV.avs f s.env) S rv KA
  | [], K, h, KA, hk => hk [] rfl h [] rfl
  | .tmp t :: r, K, h, KA, hk => by
    simp only [sres] at h
    simp only [aresults]
    have key : ∀ v, (sleft s (s.get t) = .val v ∨ sleft s (s.get t) = .req true v) → denR (sres P s r fun vs => K (v :: vs)) QR → aresults P (SV.avs f s.env) S r fun cs => KA ((SV.avs f s.env).getD t .u :: cs) := fun v hv h => by
      obtain ⟨k1, k2⟩ := sleft_ok hs hB hv
      refine sres_ok hs hB r _ h _ fun vs hp hd cs hcs => hk (v :: vs) (by simp only [SV.pures, k2, hp, Bool.and_self]) hd _ ?_
      simp only [List.map_cons, hcs, SV.avs]
      congr 1
      rw [avs_getD]
      exact k1
    split at h
    · exact h.elim
    · rename_i v e; exact key v (.inl e) h
    · rename_i g v e
      obtain ⟨rfl, h⟩ := h
      exact key v (.inr e) h
  | .cell a t :: r, K, h, KA, hk => by
    simp only [sres] at h
    simp only [aresults]
    split at h
    · rename_i id off ha
      have ha' : (SV.avs f s.env).getD a .u = .pm (f id) off := by rw [avs_getD]; exact congrArg (SV.av f) ha
      refine ⟨⟨_, _, ha'⟩, ?_⟩
      rw [ha']
      have key : ∀ v v', sload P s t (.pm id off) = .val v → (sleft s v = .val v' ∨ sleft s v = .req true v') → denR (sres P s r fun vs => K (v' :: vs)) QR → aload P S t (.pm (f id) off) fun c => aresults P (SV.avs f s.env) S r fun cs => KA (c :: cs) := fun v v' hl hv h => by
        have hload := sload_ok (P := P) (f := f) (B := B) (S := S) (s := s) (t := t) (x := .pm id off) (KK := fun c => aresults P (SV.avs f s.env) S r fun cs => KA (c :: cs)) hs
        rw [hl] at hload
        refine hload ?_
        obtain ⟨k1, k2⟩ := sleft_ok hs hB hv
        refine sres_ok hs hB r _ h _ fun vs hp hd cs hcs => hk (v' :: vs) (by simp only [SV.pures, k2, hp, Bool.and_self]) hd _ ?_
        simp only [List.map_cons, hcs, SV.avs]
        congr 1
      split at h
      · exact h.elim
      · rename_i v hl
        split at h
        · exact h.elim
        · rename_i v' e; exact key v v' hl (.inl e) h
        · rename_i g v' e
          obtain ⟨rfl, h⟩ := h
          exact key v v' hl (.inr e) h
      · exact h.elim
    · exact h.elim

/-- The value that is returned. -/
def retS : List SV → SV
  | [c] => match c with
    | .tup _ => .raw .u
    | .raw c => .raw c.nt
    | c => c
  | cs => .tup cs

theorem retS_av (f : Cx) (vs : List SV) : retV (SV.avs f vs) = (retS vs).av f := by
  match vs with
  | [] => rfl
  | [c] =>
    show (c.av f).nt = _
    cases c with
    | pin => obtain ⟨ff, x⟩ := f; cases x <;> rfl
    | _ => rfl
  | a :: b :: r => rfl

theorem retS_pure {vs : List SV} (h : SV.pures vs = true) : (retS vs).pure = true := by
  match vs with
  | [] => rfl
  | [c] =>
    simp only [SV.pures, Bool.and_true] at h
    cases c with
    | raw c =>
      simp only [SV.pure] at h
      split at h <;> first | rfl | cases h
    | tup cs => rfl
    | _ => exact h
  | a :: b :: r => exact h

/-- A function's contract: whatever is asked of what it gives. -/
theorem contractQ (hm : P.follows .mixedOrders = true) (hT : TabOK P T) (hL : LAg L) {fid : FuncId} {fn : Func} {c : Code} (hf : P.funcs[fid]? = some fn) (hb : fn.body = some c) (hng : (fn.name == "runtime.NumGoroutine") = false) (hnd : (resT fn.results.toList).Nodup)
    (hblk : BlkOK P plainR L c) {args : List SV} {QR : List SV → Prop} (h : denR (retT P fn.results.toList (run P T L c ⟨args ++ List.replicate (fn.ntmps - args.length) (.raw .u), [], [], []⟩)) QR)
    {Qr : ARes → AState → Prop} (f : Cx) (hfa : ∀ g, SV.avs g args = SV.avs f args) (S : AState) (hq : ∀ vs, QR vs → SV.pures vs = true → Qr (.ret ((retS vs).av f)) S) : ACalls P G0 fid (SV.avs f args) S Qr := by
  let f0 : Cx := ⟨fun k => S.length + k, none⟩
  have hf0 : f0.x = none := rfl
  have hs0 : SR f0 S [] S := ⟨fun k o h => by simp at h, fun i j e => by simpa [f0] using e, fun j => by simp [f0], fun i _ _ => rfl, Nat.le_refl _⟩
  refine ACalls.bodyZ G0_pl hf hb hng hnd ?_
  rw [← hfa f0]
  have henv : SV.avs f0 args ++ List.replicate (fn.ntmps - (SV.avs f0 args).length) .u = SV.avs f0 (args ++ List.replicate (fn.ntmps - args.length) (.raw .u)) := by
    rw [avs_app, avs_len]
    congr 1
    rw [avs_map, List.map_replicate]
    rfl
  rw [henv]
  refine run_fin (s := ⟨_, [], [], []⟩) (B := S) hf0 hm hT hL hblk hs0 ?_
  generalize hst : (⟨args ++ List.replicate (fn.ntmps - args.length) (.raw .u), [], [], []⟩ : St) = s0 at h
  have leaf : ∀ (x : SX) (s' : St), (∀ i, x ≠ .exit i) → denR (sres P s' fn.results.toList .val) QR → QF f0 S (E.bodyZ P fn S Qr) x s' := by
    intro x s' hx hd S2 hs2
    have base : S2.take S.length = S ∧ aresults P (SV.avs f0 s'.env) S2 fn.results.toList (left0 S.length S2 S Qr) := by
      refine ⟨?_, ?_⟩
      · apply List.ext_getElem?
        intro i
        rcases Nat.lt_or_ge i S.length with hi | hi
        · rw [List.getElem?_take_of_lt hi]
          exact hs2.old i hi fun k e => by simp only [f0] at e; omega
        · rw [List.getElem?_eq_none (by simp; omega), List.getElem?_eq_none hi]
      · refine sres_ok hs2 (fun k => by simp only [f0]; omega) fn.results.toList .val hd _ fun vs hp hQ cs hcs => ?_
        have e1 : retV (cs.map (frz S.length S2)) = (retS vs).av f0 := by rw [hcs, retS_av]
        refine ⟨by rw [e1]; exact pure_clean _ _ _ (retS_pure hp), ?_⟩
        rw [e1, pure_same f0 f _ (retS_pure hp)]
        exact hq vs hQ hp
    cases x with
    | normal => exact base
    | ret => exact base
    | exit i => exact absurd rfl (hx i)
  generalize run P T L c s0 = t at h ⊢
  induction t with
  | stuck => exact h
  | leaf x s' =>
    cases x with
    | exit i => exact h.elim
    | normal => exact leaf _ s' (fun i => by simp) h
    | ret => exact leaf _ s' (fun i => by simp) h
  | req g t ih => exact ⟨h.1, ih h.2⟩
  | ite c a b iha ihb => exact ⟨fun e => iha (h.1 e), fun e => ihb (h.2 e)⟩

/-! ### What tells less -/
/-- One datum tells no more than another one, in plain words. -/
def sle1 (a b : SV) : Prop :=
  match a, b with
  | .tt, .b y => y = true
  | .ff, .b y => y = false
  | .b x, .b y => x = y
  | .i k x, .i k' y => k = k' ∧ x = y
  | .y x, .y y => x = y
  | .s x, .s y => x = y
  | .nils, .sl _ g l => l = []
  | .sl0, .sl o g l => o = false ∧ l = []
  | .sl o g l, .sl o' g' l' => (o = o' ∨ o' = false) ∧ match GT.same g g' with
    | some ⟨h⟩ => GT.cast h l = l'
    | none => False
  | a, b => a = b

def sleL : List SV → List SV → Prop
  | [], [] => True
  | a :: aa, b :: bs => sle1 a b ∧ sleL aa bs
  | _, _ => False

theorem sle1_ok (f : Cx) {a b : SV} (h : sle1 a b) : ALe (a.av f) (b.av f) := by
  unfold sle1 at h
  split at h
  · subst h; exact .refl _
  · subst h; exact .refl _
  · subst h; exact .refl _
  · obtain ⟨rfl, rfl⟩ := h; exact .refl _
  · subst h; exact .refl _
  · subst h; exact .refl _
  · subst h; simp only [SV.av, List.length_nil, List.flatMap_nil]; exact .nil _
  · obtain ⟨rfl, rfl⟩ := h; simp only [SV.av, List.length_nil, List.flatMap_nil]; exact .refl _
  · obtain ⟨ho, h⟩ := h
    split at h
    · rename_i hh e
      subst hh
      subst h
      rcases ho with rfl | rfl
      · exact .refl _
      · rename_i o g l _
        cases o
        · exact .refl _
        · exact .own _ _ _
    · exact h.elim
  · subst h; exact .refl _

/-- What is given tells no more. -/
theorem ACalls.le {fid : FuncId} {args : List AV} {a b : AV} (h : ACalls P G0 fid args S (retIs a S)) (hl : ALe a b) : ACalls P G0 fid args S (retIs b S) := by
  intro g w vs h1 h2 h3 h4 h5
  refine next1_mono (fun e w' hp => ?_) (h g w vs h1 h2 h3 h4 h5)
  cases e with
  | returned v =>
    obtain ⟨r, σ', g', ⟨q1, q2⟩, k2, k3, k4, k5, k6⟩ := hp
    cases q1
    have := hl.h g' v k4
    exact ⟨b, σ', g', ⟨rfl, q2⟩, k2, k3, this.1, this.2.2 0 k5, k6⟩
  | panicked ch =>
    obtain ⟨x, v, σ', g', k0, ⟨k1, _⟩, _⟩ := hp
    cases k1
  | outgrown => exact hp.elim

theorem sleL_ok (f : Cx) : ∀ {aa bs : List SV}, sleL aa bs → LeL (SV.avs f aa) (SV.avs f bs)
  | [], [], _ => .refl _
  | a :: aa, b :: bs, h => by
    have ih := sleL_ok f h.2
    refine ⟨by simp only [SV.avs, List.length_cons, ih.1], fun i x y hx hy => ?_⟩
    cases i with
    | zero => simp [SV.avs] at hx hy; subst hx; subst hy; exact sle1_ok f h.1
    | succ i => exact ih.2 i x y (by simpa [SV.avs] using hx) (by simpa [SV.avs] using hy)

/-- A result that may stand alone. -/
def okR : SV → Bool
  | .tup _ | .raw _ => false
  | _ => true
theorem okR_ret {a : SV} (h : okR a = true) : retS [a] = a := by cases a <;> first | rfl | cases h
theorem sle1_okR {a b : SV} (h : sle1 a b) (hb : okR b = true) : okR a = true := by
  cases a with
  | tup cs => cases b <;> simp [sle1] at h <;> cases hb
  | raw c => cases b <;> simp [sle1] at h <;> cases hb
  | _ => rfl
def okRs : List SV → Bool
  | [a] => okR a
  | _ => true

/-- The contract of a function that gives this, as plain words. -/
theorem contract (hm : P.follows .mixedOrders = true) (hT : TabOK P T) (hL : LAg L) {fid : FuncId} {fn : Func} {c : Code} (hf : P.funcs[fid]? = some fn) (hb : fn.body = some c) (hng : (fn.name == "runtime.NumGoroutine") = false) (hnd : (resT fn.results.toList).Nodup)
    (hblk : BlkOK P plainR L c) {args rvs : List SV} (hrt : okRs rvs = true) (h : denR (retT P fn.results.toList (run P T L c ⟨args ++ List.replicate (fn.ntmps - args.length) (.raw .u), [], [], []⟩)) (fun vs => sleL vs rvs))
    (f : Cx) (hfa : ∀ g, SV.avs g args = SV.avs f args) (S : AState) : ACalls P G0 fid (SV.avs f args) S (retIs ((retS rvs).av f) S) := by
  have h1 := contractQ (Qr := fun r s => ∃ vs, sleL vs rvs ∧ r = .ret ((retS vs).av f) ∧ s = S) hm hT hL hf hb hng hnd hblk h f hfa S (fun vs hv hp => ⟨vs, hv, rfl, rfl⟩)
  intro g w vs k1 k2 k3 k4 k5
  refine next1_mono (fun e w' hp => ?_) (h1 g w vs k1 k2 k3 k4 k5)
  cases e with
  | returned v =>
    obtain ⟨r, σ', g', ⟨us, q0, q1, q2⟩, m2, m3, m4, m5, m6⟩ := hp
    cases q1
    have hle : ALe ((retS us).av f) ((retS rvs).av f) := by
      match us, rvs, q0, hrt with
      | [], [], _, _ => exact .refl _
      | [a], [b], q0, hrt =>
        rw [okR_ret hrt, okR_ret (sle1_okR q0.1 hrt)]
        exact sle1_ok f q0.1
      | a :: a' :: aa, b :: b' :: bs, q0, _ => exact ALe.tup (sleL_ok f q0)
    have := hle.h g' v m4
    exact ⟨_, σ', g', ⟨rfl, q2⟩, m2, m3, this.1, this.2.2 0 m5, m6⟩
  | panicked ch =>
    obtain ⟨x, v, σ', g', k0, ⟨_, _, k1, _⟩, _⟩ := hp
    cases k1
  | outgrown => exact hp.elim
end Go.Proofs.Ytoofpdmdgofdcaa.X

namespace Go.Proofs.Ytoofpdmdgofdcaa.X
open Go Go.RowKit Go.Proofs.Ytoofpdmdgofdcaa.E
set_option linter.unusedVariables false
set_option linter.unusedSimpArgs false

variable {P : Program} {f : Cx} {B S : AState} {s : St} {K : AEnv → AState → Prop} {Q : AX → AEnv → AState → Prop} {T : Tab} {L : Lps} {rs : Option Nat → Prop}

/-- The contract of a function that gives this, or what tells more. -/
theorem contractLe (hm : P.follows .mixedOrders = true) (hT : TabOK P T) (hL : LAg L) {fid : FuncId} {fn : Func} {c : Code} (hf : P.funcs[fid]? = some fn) (hb : fn.body = some c) (hng : (fn.name == "runtime.NumGoroutine") = false) (hnd : (resT fn.results.toList).Nodup)
    (hblk : BlkOK P plainR L c) {args : List SV} {v : SV} (h : denR (retT P fn.results.toList (run P T L c ⟨args ++ List.replicate (fn.ntmps - args.length) (.raw .u), [], [], []⟩)) (fun vs => ∀ f, ALe ((retS vs).av f) (v.av f)))
    (f : Cx) (hfa : ∀ g, SV.avs g args = SV.avs f args) (S : AState) : ACalls P G0 fid (SV.avs f args) S (retIs (v.av f) S) := by
  have h1 := contractQ (Qr := fun r s => ∃ vs, (∀ f, ALe ((retS vs).av f) (v.av f)) ∧ r = .ret ((retS vs).av f) ∧ s = S) hm hT hL hf hb hng hnd hblk h f hfa S (fun vs hv hp => ⟨vs, hv, rfl, rfl⟩)
  intro g w vs k1 k2 k3 k4 k5
  refine next1_mono (fun e w' hp => ?_) (h1 g w vs k1 k2 k3 k4 k5)
  cases e with
  | returned v =>
    obtain ⟨r, σ', g', ⟨us, q0, q1, q2⟩, m2, m3, m4, m5, m6⟩ := hp
    cases q1
    have := (q0 f).h g' v m4
    exact ⟨_, σ', g', ⟨rfl, q2⟩, m2, m3, this.1, this.2.2 0 m5, m6⟩
  | panicked ch =>
    obtain ⟨x, v, σ', g', k0, ⟨_, _, k1, _⟩, _⟩ := hp
    cases k1
  | outgrown => exact hp.elim

def mergeLs (c : Bool) : List SV → List SV → Option (List SV)
  | [], [] => some []
  | a :: aa, b :: bs => match mergeV c a b, mergeLs c aa bs with
    | some v, some vs => some (v :: vs)
    | _, _ => none
  | _, _ => none

/-- All ways as one. -/
def mergeRT : RT → Option (Option Bool × List SV)
  | .stuck => none
  | .val vs => match okRs vs with
    | true => some (none, vs)
    | false => none
  | .req g t => match mergeRT t with
    | some (none, vs) => some (some g, vs)
    | some (some g', vs) => some (some (g && g'), vs)
    | none => none
  | .ite c a b => match mergeRT a, mergeRT b with
    | some (g1, aa), some (g2, bs) => match mergeLs c aa bs with
      | some vs => match okRs vs with
        | true => some (joinG c g1 g2, vs)
        | false => none
      | none => none
    | _, _ => none

theorem mergeLs_ok {c : Bool} : ∀ {aa bs vs : List SV}, mergeLs c aa bs = some vs → (c = true → ∀ f, LeL (SV.avs f aa) (SV.avs f vs)) ∧ (c = false → ∀ f, LeL (SV.avs f bs) (SV.avs f vs))
  | [], [], vs, h => by cases h; exact ⟨fun _ f => .refl _, fun _ f => .refl _⟩
  | a :: aa, b :: bs, vs, h => by
    simp only [mergeLs] at h
    split at h
    · rename_i v vs' hv hvs
      cases h
      have h1 := mergeV_ok hv
      have h2 := mergeLs_ok hvs
      have key : ∀ (x : SV) (xs : List SV), (∀ f, ALe (x.av f) (v.av f)) → (∀ f, LeL (SV.avs f xs) (SV.avs f vs')) → ∀ f, LeL (SV.avs f (x :: xs)) (SV.avs f (v :: vs')) := fun x xs k1 k2 f =>
        ⟨by simp only [SV.avs, List.length_cons, (k2 f).1], fun i p q hp hq => by
          cases i with
          | zero => simp [SV.avs] at hp hq; subst hp; subst hq; exact k1 f
          | succ i => exact (k2 f).2 i p q (by simpa [SV.avs] using hp) (by simpa [SV.avs] using hq)⟩
      exact ⟨fun e => key a aa (h1.1 e) (h2.1 e), fun e => key b bs (h1.2 e) (h2.2 e)⟩
    · cases h
  | [], _ :: _, vs, h => by simp [mergeLs] at h
  | _ :: _, [], vs, h => by simp [mergeLs] at h

theorem retS_le {aa vs : List SV} (h1 : okRs aa = true) (h2 : okRs vs = true) (h : ∀ f, LeL (SV.avs f aa) (SV.avs f vs)) (f : Cx) : ALe ((retS aa).av f) ((retS vs).av f) := by
  match aa, vs, h1, h2, h with
  | [], [], _, _, _ => exact .refl _
  | [a], [b], h1, h2, h => rw [okR_ret h1, okR_ret h2]; exact (h f).2 0 _ _ rfl rfl
  | a :: a' :: aa, b :: b' :: bs, _, _, h => exact ALe.tup (h f)
  | [], _ :: _, _, _, h => have := (h f).1; simp [SV.avs] at this
  | _ :: _, [], _, _, h => have := (h f).1; simp [SV.avs] at this
  | [_], _ :: _ :: _, _, _, h => have := (h f).1; simp [SV.avs] at this
  | _ :: _ :: _, [_], _, _, h => have := (h f).1; simp [SV.avs] at this

theorem denR_mono {t : RT} {Q1 Q2 : List SV → Prop} (h : denR t Q1) (hq : ∀ vs, Q1 vs → Q2 vs) : denR t Q2 := by
  induction t with
  | stuck => exact h
  | val vs => exact hq vs h
  | req g t ih => exact ⟨h.1, ih h.2⟩
  | ite c a b iha ihb => exact ⟨fun e => iha (h.1 e), fun e => ihb (h.2 e)⟩

theorem mergeRT_ok : ∀ {t : RT} {g : Option Bool} {vs : List SV}, mergeRT t = some (g, vs) → okRs vs = true ∧ ((∀ b, g = some b → b = true) → denR t (fun us => okRs us = true ∧ ∀ f, LeL (SV.avs f us) (SV.avs f vs)))
  | .stuck, g, vs, h => by cases h
  | .val us, g, vs, h => by
    simp only [mergeRT] at h
    split at h
    · rename_i ho
      cases h
      exact ⟨ho, fun _ => ⟨ho, fun f => .refl _⟩⟩
    · cases h
  | .req b t, g, vs, h => by
    simp only [mergeRT] at h
    split at h
    · rename_i vs' e
      cases h
      obtain ⟨h1, h2⟩ := mergeRT_ok e
      exact ⟨h1, fun hg => ⟨hg _ rfl, h2 fun b e => by cases e⟩⟩
    · rename_i g' vs' e
      cases h
      obtain ⟨h1, h2⟩ := mergeRT_ok e
      refine ⟨h1, fun hg => ?_⟩
      have := hg _ rfl
      rw [Bool.and_eq_true] at this
      exact ⟨this.1, h2 fun b e => by cases e; exact this.2⟩
    · cases h
  | .ite c a b, g, vs, h => by
    simp only [mergeRT] at h
    split at h
    · rename_i g1 aa g2 bs ea eb
      split at h
      · rename_i vs' hm
        split at h
        · rename_i ho
          cases h
          obtain ⟨a1, a2⟩ := mergeRT_ok ea
          obtain ⟨b1, b2⟩ := mergeRT_ok eb
          have hls := mergeLs_ok hm
          refine ⟨ho, fun hg => ⟨fun e => ?_, fun e => ?_⟩⟩
          · refine denR_mono (a2 fun x hx => ?_) fun us k => ⟨k.1, fun f => (k.2 f).trans (hls.1 e f)⟩
            subst hx
            subst e
            cases g2 with
            | none => simpa using hg _ rfl
            | some g2 => simpa using hg _ rfl
          · refine denR_mono (b2 fun x hx => ?_) fun us k => ⟨k.1, fun f => (k.2 f).trans (hls.2 e f)⟩
            subst hx
            subst e
            cases g1 with
            | none => simpa using hg _ rfl
            | some g1 => simpa using hg _ rfl
        · cases h
      · cases h
    · cases h

def noL : Lps := fun _ => none
theorem noL_ag : LAg noL := fun id k h => by cases h
theorem blk_none : ∀ c : Code, BlkOK P rs noL c
  | .skip | .label _ | .exit _ | .ret | .goto _ | .refuse _ | .loop _ | .rangeFunc _ _ _ _ | .region _ _ _ => trivial
  | .seq a b => ⟨blk_none a, blk_none b⟩
  | .block id c => blk_none c
  | .scope c => blk_none c
  | .cond _ p q => ⟨blk_none p, blk_none q⟩

def rtVR (t : RT) : VR :=
  match mergeRT t with
  | some (none, vs) => .val (retS vs)
  | some (some g, vs) => .req g (retS vs)
  | none => .no

/-- What a function without loops gives. -/
def inlF (P : Program) (T : Tab) (fid : FuncId) (args : List SV) : VR :=
  match P.funcs[fid]? with
  | some fn => match fn.body with
    | some c => match !(fn.name == "runtime.NumGoroutine") && decide (resT fn.results.toList).Nodup && SV.pures args with
      | true => rtVR (retT P fn.results.toList (run P T noL c ⟨args ++ List.replicate (fn.ntmps - args.length) (.raw .u), [], [], []⟩))
      | false => .no
    | none => .no
  | none => .no

/-- A table, and functions without loops beside it. -/
def inl (P : Program) (T : Tab) : Nat → Tab
  | 0 => T
  | n + 1 => fun fid args => match T fid args with
    | .no => inlF P (inl P T n) fid args
    | r => r

theorem inlF_ok (hm : P.follows .mixedOrders = true) (hT : TabOK P T) : TabOK P (inlF P T) := by
  intro fid args f S v h
  have key : ∀ (fn : Func) (c : Code) (g : Option Bool) (vs : List SV), P.funcs[fid]? = some fn → fn.body = some c → (!(fn.name == "runtime.NumGoroutine") && decide (resT fn.results.toList).Nodup && SV.pures args) = true →
      mergeRT (retT P fn.results.toList (run P T noL c ⟨args ++ List.replicate (fn.ntmps - args.length) (.raw .u), [], [], []⟩)) = some (g, vs) → (∀ b, g = some b → b = true) → ACalls P G0 fid (SV.avs f args) S (retIs ((retS vs).av f) S) := by
    intro fn c g vs hf hb hc hmr hg
    simp only [Bool.and_eq_true, Bool.not_eq_true', decide_eq_true_eq] at hc
    obtain ⟨h1, h2⟩ := mergeRT_ok hmr
    exact contractLe hm hT noL_ag hf hb hc.1.1 hc.1.2 (blk_none c) (denR_mono (h2 hg) fun us k f => retS_le k.1 h1 k.2 f) f (fun g => pures_same g f args hc.2) S
  unfold inlF at h
  split at h
  · rename_i fn hf
    split at h
    · rename_i c hb
      split at h
      · rename_i hc
        unfold rtVR at h
        split at h
        · rename_i vs hmr
          rcases h with h | h
          · cases h; exact key fn c none vs hf hb hc hmr (fun b e => by cases e)
          · cases h
        · rename_i g vs hmr
          rcases h with h | h
          · cases h
          · cases h; exact key fn c (some true) vs hf hb hc hmr (fun b e => by cases e; rfl)
        · rcases h with h | h <;> cases h
      · rcases h with h | h <;> cases h
    · rcases h with h | h <;> cases h
  · rcases h with h | h <;> cases h

theorem inl_ok (hm : P.follows .mixedOrders = true) (hT : TabOK P T) : ∀ n, TabOK P (inl P T n)
  | 0 => hT
  | n + 1 => fun fid args f S v h => by
    simp only [inl] at h
    split at h
    · exact inlF_ok hm (inl_ok hm hT n) fid args f S v h
    · exact hT fid args f S v h

/-- Nothing is told. -/
def noT : Tab := fun _ _ => .no
theorem noT_ok : TabOK P noT := fun fid args f S v h => by rcases h with h | h <;> cases h
/-- One function more. -/
def withT (T : Tab) (n : FuncId) (k : List SV → VR) : Tab := fun fid args => if fid = n then k args else T fid args
theorem withT_ok {n : FuncId} {k : List SV → VR} (hT : TabOK P T) (hk : ∀ (args : List SV) (f : Cx) (S : AState) (v : SV), (k args = .val v ∨ k args = .req true v) → ACalls P G0 n (SV.avs f args) S (retIs (v.av f) S)) : TabOK P (withT T n k) := by
  intro fid args f S v h
  unfold withT at h
  split at h
  · rename_i e; subst e; exact hk args f S v h
  · exact hT fid args f S v h

/-! ### Loops -/
/-- A row of temporaries: these, and nothing of the others. -/
def mk (n : Nat) (l : List (Nat × SV)) : List SV := l.foldl (fun e p => e.set p.1 p.2) (List.replicate n (.raw .u))

theorem mk_len (l : List (Nat × SV)) : ∀ e : List SV, (l.foldl (fun e p => e.set p.1 p.2) e).length = e.length := by
  induction l with
  | nil => intro e; rfl
  | cons p l ih => intro e; rw [List.foldl_cons, ih, List.length_set]

/-- The temporaries tell no more than these. -/
def tells (e : List SV) (l : List (Nat × SV)) : Prop := match l with
  | [] => True
  | p :: r => sle1 (e.getD p.1 (.raw .u)) p.2 ∧ tells e r

theorem tells_le (f : Cx) {e : List SV} : ∀ (l : List (Nat × SV)) (e0 : List SV), e0.length = e.length → LeL (SV.avs f e) (SV.avs f e0) → tells e l → LeL (SV.avs f e) (SV.avs f (l.foldl (fun e p => e.set p.1 p.2) e0))
  | [], e0, _, h, _ => h
  | p :: l, e0, hl, h, ht => by
    rw [List.foldl_cons]
    refine tells_le f l _ (by rw [List.length_set, hl]) ⟨by rw [avs_len, avs_len, List.length_set, hl], fun i a b ha hb => ?_⟩ ht.2
    rw [avs_set] at hb
    by_cases hi : p.1 = i
    · subst hi
      have hlt : p.1 < e.length := by have := (List.getElem?_eq_some_iff.1 ha).1; rw [avs_len] at this; exact this
      rw [List.getElem?_set_self (by rw [avs_len, hl]; exact hlt)] at hb
      cases hb
      have h1 := sle1_ok f ht.1
      rw [avs_get, List.getElem?_eq_getElem hlt] at ha
      cases ha
      rw [List.getD_eq_getElem?_getD, List.getElem?_eq_getElem hlt] at h1
      exact h1
    · rw [List.getElem?_set_ne hi] at hb
      exact h.2 i a b ha hb

theorem mk_le (f : Cx) {e : List SV} {n : Nat} {l : List (Nat × SV)} (hn : e.length = n) (h : tells e l) : LeL (SV.avs f e) (SV.avs f (mk n l)) := by
  refine tells_le f l _ (by rw [List.length_replicate, hn]) ⟨by rw [avs_len, avs_len, List.length_replicate, hn], fun i a b ha hb => ?_⟩ h
  rw [avs_get, Option.map_eq_some_iff] at hb
  obtain ⟨c, hc, rfl⟩ := hb
  rw [List.getElem?_replicate] at hc
  split at hc
  · cases hc; exact .u _
  · cases hc

/-- Where a round of a loop ends: at these temporaries. -/
inductive LT where
  | stuck
  | cont (s : St)
  | out (s : St)
  | ret (s : St)
  | req (g : Bool) (t : LT)
  | ite (c : Bool) (a b : LT)

/-- A state, at some temporaries alone. -/
def only (n : Nat) (ts : List Nat) (s : St) : St := ⟨mk n (ts.map fun t => (t, s.get t)), s.σ, [], []⟩

/-- A round's ends: 'id' is the block that a loop is left by; behind it only these temporaries are looked at, in the next round only those. -/
def loopT (id n : Nat) (ins outs : List Nat) : Tree → LT
  | .stuck => .stuck
  | .leaf .normal s => .cont (only n ins s)
  | .leaf (.exit i) s => if i = id then .out (only n outs s) else .stuck
  | .leaf .ret s => .ret s
  | .req g t => .req g (loopT id n ins outs t)
  | .ite c a b => .ite c (loopT id n ins outs a) (loopT id n ins outs b)

def denL : LT → (St → Prop) → (St → Prop) → (St → Prop) → Prop
  | .stuck, _, _, _ => False
  | .cont s, C, O, R => C s
  | .out s, C, O, R => O s
  | .ret s, C, O, R => R s
  | .req g t, C, O, R => g = true ∧ denL t C O R
  | .ite c a b, C, O, R => (c = true → denL a C O R) ∧ (c = false → denL b C O R)

theorem tells_self (e : List SV) (h : ∀ c ∈ e, True) : ∀ ts : List Nat, tells e (ts.map fun t => (t, e.getD t (.raw .u)))
  | [] => trivial
  | t :: ts => ⟨by
    show sle1 (e.getD t (.raw .u)) (e.getD t (.raw .u))
    generalize e.getD t (.raw .u) = c
    cases c with
    | sl o g l =>
      simp only [sle1, true_or, true_and]
      have : ∀ g : GT, ∃ h, GT.same g g = some ⟨h⟩ := by
        intro g
        induction g with
        | pair a b iha ihb =>
          obtain ⟨h1, e1⟩ := iha
          obtain ⟨h2, e2⟩ := ihb
          exact ⟨rfl, by simp only [GT.same, e1, e2]⟩
        | list a ih =>
          obtain ⟨h1, e1⟩ := ih
          exact ⟨rfl, by simp only [GT.same, e1]⟩
        | int k => exact ⟨rfl, by simp [GT.same]⟩
        | _ => exact ⟨rfl, rfl⟩
      obtain ⟨h, e⟩ := this g
      rw [e]
      exact GT.cast_rfl h l
    | _ => simp [sle1], tells_self e h ts⟩

theorem only_le (n : Nat) (ts : List Nat) (s : St) (hn : s.env.length = n) : StLe s (only n ts s) := fun f =>
  ⟨mk_le f hn (tells_self s.env (fun _ _ => trivial) ts), .refl f _⟩

/-- A loop, by one round: the temporaries 'ins' at its head, 'outs' behind it. -/
theorem loop_ok {α : Type} (hf0 : f.x = none) (hm : P.follows .mixedOrders = true) (hT : TabOK P T) (hL : LAg L) {id n : Nat} {body : Code} (hblk : BlkOK P rs L body) (ins outs : List Nat) (inv : α → Prop) (μ : α → Nat) (I : α → List (Nat × SV)) (J : α → List SO) (x0 : α)
    (hs : SR f B s.σ S) (hn : s.env.length = n) (h0 : inv x0) (he : tells s.env (I x0)) (hJ : LeSO f s.σ (J x0)) (O R : St → Prop)
    (round : ∀ x, inv x → denL (loopT id n ins outs (run P T L body ⟨mk n (I x), J x, [], []⟩)) (fun s' => ∃ y, inv y ∧ μ y < μ x ∧ tells s'.env (I y) ∧ ∀ f, LeSO f s'.σ (J y)) O R)
    (hO : ∀ s', O s' → QD f B Q .normal s') (hR : ∀ s', R s' → QD f B Q .ret s') : AWp P rs G0 (.block id (.loop body)) Q (SV.avs f s.env) S := by
  obtain ⟨S0, hS0, hs0⟩ := SR.le hJ hs
  refine AWp.le (env' := SV.avs f (mk n (I x0))) (σ' := S0) ?_ (mk_le f hn he) hS0
  refine AWp.block ?_
  -- the ghost: a step, and a state of the machine's objects that it tells
  refine AWp.loopL (α := { p : α × AState // inv p.1 ∧ SR f B (J p.1) p.2 }) (fun _ => True) (fun p => μ p.1.1) (fun p => SV.avs f (mk n (I p.1.1))) (fun p => p.1.2) ⟨(x0, S0), h0, hs0⟩ trivial (.refl _) (.refl _) ?_
  rintro ⟨⟨x, S1⟩, hx, hs1⟩ -
  refine run_ok hf0 hm hT hL body _ ⟨mk n (I x), J x, [], []⟩ S1 hblk hs1 ?_
  have hrd := round x hx
  have hag := run_ag (P := P) (T := T) hL body ⟨mk n (I x), J x, [], []⟩
  generalize run P T L body ⟨mk n (I x), J x, [], []⟩ = t at hrd hag ⊢
  have hlen : ∀ s' : St, AgX ⟨mk n (I x), J x, [], []⟩ .normal s' → s'.env.length = n := fun s' h => by
    rw [show s'.env.length = (mk n (I x)).length from Ag.len h]
    exact (mk_len _ _).trans (List.length_replicate ..)
  induction t with
  | stuck => exact hrd
  | leaf ax s' =>
    have hl := hlen s' hag
    cases ax with
    | normal =>
      obtain ⟨y, k1, k2, k3, k4⟩ := hrd
      intro e S2 S3 q1 q2 q3
      obtain ⟨S4, q4, q5⟩ := SR.le (k4 f) q3
      refine ⟨⟨⟨y, S4⟩, k1, q5⟩, trivial, k2, ?_, q2.trans q4⟩
      refine (q1.trans (only_le n ins s' hl f).1).trans (mk_le f ?_ k3)
      exact (mk_len _ _).trans (List.length_replicate ..)
    | exit i =>
      simp only [loopT] at hrd
      split at hrd
      · rename_i hi
        subst hi
        intro e S2 S3 q1 q2 q3
        show (if i = i then Q .normal else Q (.exit i)) e S2
        rw [if_pos rfl]
        exact QD.le (hO _ hrd) (only_le n outs s' hl) e S2 S3 q1 q2 q3
      · exact hrd.elim
    | ret =>
      intro e S2 S3 q1 q2 q3
      exact hR s' hrd e S2 S3 q1 q2 q3
  | req g t ih => exact ⟨hrd.1, ih hrd.2 hag⟩
  | ite c a b iha ihb => exact ⟨fun e => iha (hrd.1 e) hag.1, fun e => ihb (hrd.2 e) hag.2⟩
end Go.Proofs.Ytoofpdmdgofdcaa.X

namespace Go.Proofs.Ytoofpdmdgofdcaa.X
open Go Go.RowKit Go.Proofs.Ytoofpdmdgofdcaa.E
set_option linter.unusedVariables false
set_option linter.unusedSimpArgs false

variable {P : Program} {f : Cx} {B S : AState} {s : St} {K : AEnv → AState → Prop} {Q : AX → AEnv → AState → Prop} {T : Tab} {L : Lps} {rs : Option Nat → Prop}

/-- What stands in the blocks of this number. -/
def findAll (id : Nat) : Code → List Code
  | .seq a b => findAll id a ++ findAll id b
  | .block i c => if i = id then c :: findAll id c else findAll id c
  | .scope c => findAll id c
  | .cond _ p q => findAll id p ++ findAll id q
  | .loop c => findAll id c
  | .rangeFunc _ _ a b => findAll id a ++ findAll id b
  | _ => []

def LoopF (P : Program) (rs : Option Nat → Prop) (id : Nat) (c : Code) (k : St → Tree) : Prop :=
  ∀ (f : Cx) (B : AState) (s : St) (S : AState) (Q : AX → AEnv → AState → Prop), f.x = none → SR f B s.σ S → den (k s) (QD f B Q) → AWp P rs G0 (.block id c) Q (SV.avs f s.env) S

theorem blk_find : ∀ c : Code, (∀ id k, L id = some k → ∀ b ∈ findAll id c, LoopF P rs id b k) → BlkOK P rs L c
  | .skip, _ | .label _, _ | .exit _, _ | .ret, _ | .goto _, _ | .refuse _, _ | .loop _, _ | .rangeFunc _ _ _ _, _ | .region _ _ _, _ => trivial
  | .seq a b, h => ⟨blk_find a fun id k hk x hx => h id k hk x (List.mem_append_left _ hx), blk_find b fun id k hk x hx => h id k hk x (List.mem_append_right _ hx)⟩
  | .cond _ a b, h => ⟨blk_find a fun id k hk x hx => h id k hk x (List.mem_append_left _ hx), blk_find b fun id k hk x hx => h id k hk x (List.mem_append_right _ hx)⟩
  | .scope c, h => blk_find c h
  | .block i c, h => by
    simp only [BlkOK]
    split
    · rename_i k hk
      exact h i k hk c (by simp [findAll])
    · exact blk_find c fun id k hk x hx => h id k hk x (by simp only [findAll]; split <;> simp [hx])

/-- Summaries by number. -/
def lps : List (Nat × (St → Tree)) → Lps
  | [] => fun _ => none
  | p :: l => fun id => if id = p.1 then some p.2 else lps l id

theorem lps_ok {c : Code} : ∀ (l : List (Nat × (St → Tree))), (∀ p ∈ l, ∀ b ∈ findAll p.1 c, LoopF P rs p.1 b p.2) → ∀ id k, lps l id = some k → ∀ b ∈ findAll id c, LoopF P rs id b k
  | [], _, id, k, hk => by cases hk
  | p :: l, h, id, k, hk => by
    simp only [lps] at hk
    split at hk
    · rename_i e
      cases hk
      subst e
      exact h p (by simp)
    · exact lps_ok l (fun q hq => h q (by simp [hq])) id k hk

theorem lps_ag : ∀ (l : List (Nat × (St → Tree))), (∀ p ∈ l, ∀ s, allL (AgX s) (p.2 s)) → LAg (lps l)
  | [], _, id, k, hk => by cases hk
  | p :: l, h, id, k, hk => by
    simp only [lps] at hk
    split at hk
    · cases hk; exact h p (by simp)
    · exact lps_ag l (fun q hq => h q (by simp [hq])) id k hk

/-- One loop. -/
theorem blk1 {c b : Code} {id : Nat} {k : St → Tree} (hf : findAll id c = [b]) (hk : LoopF P rs id b k) : BlkOK P rs (lps [(id, k)]) c :=
  blk_find c (lps_ok _ fun p hp => by
    simp only [List.mem_singleton] at hp
    subst hp
    intro b' hb
    rw [hf] at hb
    simp only [List.mem_singleton] at hb
    subst hb
    exact hk)

/-- More than one: each found once. -/
def Found (P : Program) (rs : Option Nat → Prop) (c : Code) : List (Nat × (St → Tree)) → Prop
  | [] => True
  | p :: l => (∃ b, findAll p.1 c = [b] ∧ LoopF P rs p.1 b p.2) ∧ Found P rs c l
theorem blks {c : Code} {l : List (Nat × (St → Tree))} (h : Found P rs c l) : BlkOK P rs (lps l) c :=
  blk_find c (lps_ok l (by
    induction l with
    | nil => intro p hp; cases hp
    | cons q l ih =>
      intro p hp b hb
      rcases List.mem_cons.1 hp with rfl | hp
      · obtain ⟨⟨b', h1, h2⟩, _⟩ := h
        rw [h1] at hb
        simp only [List.mem_singleton] at hb
        subst hb
        exact h2
      · exact ih h.2 p hp b hb))

/-- The body of the loop in the block of this number. -/
def lbody (id : Nat) (c : Code) : Code :=
  match findAll id c with
  | [.loop b] => b
  | _ => .skip

/-- A cell that changes; a vector that does. -/
inductive Upd where
  | cell (id off : Nat) (v : SV)
  | vec (id : Nat) (g : GT) (l : List g.T)

def St.upd (s : St) : Upd → St
  | .cell id off v => match s.σ[id]? with
    | some (.cells cs) => s.setC id off cs v
    | _ => s
  | .vec id g l => match s.σ[id]? with
    | some (.vec g' _) => match GT.same g' g with
      | some ⟨_⟩ => s.setV id g l
      | none => s
    | _ => s
def St.upds (s : St) : List Upd → St
  | [] => s
  | u :: us => (s.upd u).upds us

/-- Behind a loop: what stands in 'ks' is as it was; 'us': what changed in the objects. -/
def after (s : St) (n : Nat) (ks ts : List Nat) (vs : List SV) (us : List Upd) : St :=
  St.upds ⟨mk n (ks.map (fun k => (k, s.get k)) ++ ts.zip vs), s.σ, (List.range n).filter (fun j => !ks.contains j || ts.contains j) ++ s.wl, s.cl⟩ us

theorem mk_app (n : Nat) (l l' : List (Nat × SV)) : mk n (l ++ l') = l'.foldl (fun e p => e.set p.1 p.2) (mk n l) := by simp only [mk, List.foldl_append]
theorem fold_ne : ∀ (l : List (Nat × SV)) (e : List SV) (j : Nat), (∀ p ∈ l, p.1 ≠ j) → (l.foldl (fun e p => e.set p.1 p.2) e)[j]? = e[j]?
  | [], e, j, _ => rfl
  | p :: l, e, j, h => by
    rw [List.foldl_cons, fold_ne l _ j fun q hq => h q (List.mem_cons_of_mem _ hq), List.getElem?_set_ne (h p List.mem_cons_self)]
theorem fold_keep (s : St) : ∀ (ks : List Nat) (e : List SV) (j : Nat), e.length = s.env.length → (j ∈ ks ∨ e[j]? = s.env[j]?) → ((ks.map fun k => (k, s.get k)).foldl (fun e p => e.set p.1 p.2) e)[j]? = s.env[j]?
  | [], e, j, _, h => by rcases h with h | h; · cases h
                         · exact h
  | k :: ks, e, j, hl, h => by
    rw [List.map_cons, List.foldl_cons]
    refine fold_keep s ks _ j (by rw [List.length_set]; exact hl) ?_
    by_cases hk : k = j
    · subst hk
      refine .inr ?_
      by_cases hlt : k < s.env.length
      · rw [List.getElem?_set_self (by rw [hl]; exact hlt), St.get, List.getD_eq_getElem?_getD, List.getElem?_eq_getElem hlt]
        rfl
      · rw [List.getElem?_eq_none (by rw [List.length_set, hl]; omega), List.getElem?_eq_none (by omega)]
    · rcases h with h | h
      · exact .inl ((List.mem_cons.1 h).resolve_left (Ne.symm hk))
      · exact .inr (by rw [List.getElem?_set_ne hk]; exact h)

/-- The objects, changed. -/
def updO (σ : List SO) : Upd → List SO
  | .cell id off v => match σ[id]? with
    | some (.cells cs) => σ.set id (.cells (cs.set off v))
    | _ => σ
  | .vec id g l => match σ[id]? with
    | some (.vec g' _) => match GT.same g' g with
      | some ⟨_⟩ => σ.set id (.vec g l)
      | none => σ
    | _ => σ
def updsO (σ : List SO) : List Upd → List SO
  | [] => σ
  | u :: us => updsO (updO σ u) us

theorem upd_σ (s : St) (u : Upd) : (s.upd u).σ = updO s.σ u ∧ (s.upd u).env = s.env := by
  cases u with
  | cell id off v =>
    simp only [St.upd, updO]
    split <;> exact ⟨rfl, rfl⟩
  | vec id g l =>
    simp only [St.upd, updO]
    split
    · split <;> exact ⟨rfl, rfl⟩
    · exact ⟨rfl, rfl⟩
theorem upds_σ : ∀ (us : List Upd) (s : St), (s.upds us).σ = updsO s.σ us ∧ (s.upds us).env = s.env
  | [], s => ⟨rfl, rfl⟩
  | u :: us, s => by
    have h1 := upd_σ s u
    have h2 := upds_σ us (s.upd u)
    rw [h1.1, h1.2] at h2
    exact h2
theorem Ag.upd (s : St) (u : Upd) : Ag s (s.upd u) := by
  cases u with
  | cell id off v =>
    simp only [St.upd]
    split
    · rename_i h; exact .setC s id off _ v h
    · exact .refl s
  | vec id g l =>
    simp only [St.upd]
    split
    · rename_i g' l' h
      split
      · rename_i hg _
        subst hg
        exact .setV s id g' l' l h
      · exact .refl s
    · exact .refl s
theorem Ag.upds : ∀ (us : List Upd) (s : St), Ag s (s.upds us)
  | [], s => .refl s
  | u :: us, s => (Ag.upd s u).trans (Ag.upds us (s.upd u))

theorem after_ag {s : St} {n : Nat} {ks ts : List Nat} {vs : List SV} {us : List Upd} (hn : s.env.length = n) : Ag s (after s n ks ts vs us) := by
  have hlen : ∀ l, (mk n l).length = s.env.length := fun l => by rw [hn]; exact (mk_len _ _).trans (List.length_replicate ..)
  have henv : ∀ j, j ∉ (List.range n).filter (fun j => !ks.contains j || ts.contains j) ++ s.wl → (mk n (ks.map (fun k => (k, s.get k)) ++ ts.zip vs))[j]? = s.env[j]? := fun j hj => by
    rcases Nat.lt_or_ge j n with hlt | hge
    · have h1 : ¬ (!ks.contains j || ts.contains j) = true := fun h => hj (List.mem_append_left _ (List.mem_filter.2 ⟨List.mem_range.2 hlt, h⟩))
      simp only [Bool.or_eq_true, not_or, Bool.not_eq_true', List.contains_eq_mem, decide_eq_true_eq, decide_eq_false_iff_not, Decidable.not_not] at h1
      rw [mk_app, fold_ne _ _ _ fun p hp e => h1.2 (by rw [← e]; exact (List.of_mem_zip hp).1)]
      exact fold_keep s ks _ j (by rw [List.length_replicate, hn]) (.inl h1.1)
    · rw [List.getElem?_eq_none (by rw [hlen, hn]; exact hge), List.getElem?_eq_none (by rw [hn]; exact hge)]
  have h0 : Ag s ⟨mk n (ks.map (fun k => (k, s.get k)) ++ ts.zip vs), s.σ, (List.range n).filter (fun j => !ks.contains j || ts.contains j) ++ s.wl, s.cl⟩ := ⟨fun j h => List.mem_append_right _ h, fun p h => h, hlen _, fun j hj => henv j hj, fun k o ho => ⟨o, ho, .refl _ _ _⟩, fun _ => rfl⟩
  exact h0.trans (Ag.upds us _)

/-- What a loop does, as values: 'out' behind it, 'ret' where it returns; 'us': what changed in the objects. -/
inductive LS where
  | stuck
  | out (vs : List SV) (us : List Upd)
  | ret (vs : List SV) (us : List Upd)
  | req (g : Bool) (t : LS)
  | ite (c : Bool) (a b : LS)

/-- Where a round ends, by values at these temporaries. -/
inductive LV where
  | stuck
  | cont (vs : List SV) (σ : List SO)
  | out (vs : List SV) (σ : List SO)
  | ret (vs : List SV) (σ : List SO)
  | req (g : Bool) (t : LV)
  | ite (c : Bool) (a b : LV)

def gets (s : St) (ts : List Nat) : List SV := ts.map s.get

def loopV (id : Nat) (ins outs rts : List Nat) : Tree → LV
  | .stuck => .stuck
  | .leaf .normal s => .cont (gets s ins) s.σ
  | .leaf (.exit i) s => if i = id then .out (gets s outs) s.σ else .stuck
  | .leaf .ret s => .ret (gets s rts) s.σ
  | .req g t => .req g (loopV id ins outs rts t)
  | .ite c a b => .ite c (loopV id ins outs rts a) (loopV id ins outs rts b)

def denV : LV → (List SV → List SO → Prop) → (List SV → List SO → Prop) → (List SV → List SO → Prop) → Prop
  | .stuck, _, _, _ => False
  | .cont vs σ, C, O, R => C vs σ
  | .out vs σ, C, O, R => O vs σ
  | .ret vs σ, C, O, R => R vs σ
  | .req g t, C, O, R => g = true ∧ denV t C O R
  | .ite c a b, C, O, R => (c = true → denV a C O R) ∧ (c = false → denV b C O R)

theorem tells_zip {e : List SV} : ∀ {ts : List Nat} {vs ws : List SV}, vs = ts.map (fun t => e.getD t (.raw .u)) → sleL vs ws → tells e (ts.zip ws)
  | [], vs, ws, _, _ => trivial
  | t :: ts, vs, [], _, _ => trivial
  | t :: ts, v :: vs, w :: ws, h, hl => by
    simp only [List.map_cons, List.cons.injEq] at h
    exact ⟨by rw [← h.1]; exact hl.1, tells_zip h.2 hl.2⟩
  | t :: ts, [], w :: ws, h, hl => by simp at h

theorem tells_only {n : Nat} {ts : List Nat} {s : St} {ws : List SV} (hl : sleL (gets s ts) ws) : tells s.env (ts.zip ws) := tells_zip (e := s.env) rfl hl

/-- A loop, by one round, told by values: 'ins' at its head, 'outs' behind it, 'rts' where it returns. -/
theorem loop_val {α : Type} (hf0 : f.x = none) (hm : P.follows .mixedOrders = true) (hT : TabOK P T) (hL : LAg L) {id n : Nat} {body : Code} (hblk : BlkOK P rs L body) (ins outs rts : List Nat) (inv : α → Prop) (μ : α → Nat) (V : α → List SV) (J : α → List SO) (x0 : α)
    (hs : SR f B s.σ S) (hn : s.env.length = n) (h0 : inv x0) (he : sleL (gets s ins) (V x0)) (hJ : LeSO f s.σ (J x0)) (O R : List SV → List SO → Prop)
    (round : ∀ x, inv x → denV (loopV id ins outs rts (run P T L body ⟨mk n (ins.zip (V x)), J x, [], []⟩)) (fun vs σ => ∃ y, inv y ∧ μ y < μ x ∧ sleL vs (V y) ∧ ∀ f, LeSO f σ (J y)) O R)
    (hO : ∀ vs σ, O vs σ → QD f B Q .normal ⟨mk n (outs.zip vs), σ, [], []⟩) (hR : ∀ vs σ, R vs σ → QD f B Q .ret ⟨mk n (rts.zip vs), σ, [], []⟩) : AWp P rs G0 (.block id (.loop body)) Q (SV.avs f s.env) S := by
  obtain ⟨S0, hS0, hs0⟩ := SR.le hJ hs
  refine AWp.le (env' := SV.avs f (mk n (ins.zip (V x0)))) (σ' := S0) ?_ (mk_le f hn (tells_only (n := n) he)) hS0
  refine AWp.block ?_
  refine AWp.loopL (α := { p : α × AState // inv p.1 ∧ SR f B (J p.1) p.2 }) (fun _ => True) (fun p => μ p.1.1) (fun p => SV.avs f (mk n (ins.zip (V p.1.1)))) (fun p => p.1.2) ⟨(x0, S0), h0, hs0⟩ trivial (.refl _) (.refl _) ?_
  rintro ⟨⟨x, S1⟩, hx, hs1⟩ -
  refine run_ok hf0 hm hT hL body _ ⟨mk n (ins.zip (V x)), J x, [], []⟩ S1 hblk hs1 ?_
  have hrd := round x hx
  have hag := run_ag (P := P) (T := T) hL body ⟨mk n (ins.zip (V x)), J x, [], []⟩
  generalize run P T L body ⟨mk n (ins.zip (V x)), J x, [], []⟩ = t at hrd hag ⊢
  have hlen : ∀ s' : St, AgX ⟨mk n (ins.zip (V x)), J x, [], []⟩ .normal s' → s'.env.length = n := fun s' h => by
    rw [show s'.env.length = (mk n (ins.zip (V x))).length from Ag.len h]
    exact (mk_len _ _).trans (List.length_replicate ..)
  have hself : ∀ (s' : St) (ts : List Nat), s'.env.length = n → StLe s' ⟨mk n (ts.zip (gets s' ts)), s'.σ, [], []⟩ := fun s' ts hl f => by
    have e : ts.zip (gets s' ts) = ts.map fun t => (t, s'.get t) := by
      clear hrd
      induction ts with
      | nil => rfl
      | cons t ts ih => simp only [gets, List.map_cons, List.zip_cons_cons] at ih ⊢; rw [ih]
    have := only_le n ts s' hl f
    rw [e]
    exact this
  induction t with
  | stuck => exact hrd
  | leaf ax s' =>
    have hl := hlen s' hag
    cases ax with
    | normal =>
      obtain ⟨y, k1, k2, k3, k4⟩ := hrd
      intro e S2 S3 q1 q2 q3
      obtain ⟨S4, q4, q5⟩ := SR.le (k4 f) q3
      exact ⟨⟨⟨y, S4⟩, k1, q5⟩, trivial, k2, q1.trans (mk_le f hl (tells_only (n := n) k3)), q2.trans q4⟩
    | exit i =>
      simp only [loopV] at hrd
      split at hrd
      · rename_i hi
        subst hi
        intro e S2 S3 q1 q2 q3
        show (if i = i then Q .normal else Q (.exit i)) e S2
        rw [if_pos rfl]
        exact QD.le (hO _ _ hrd) (hself s' outs hl) e S2 S3 q1 q2 q3
      · exact hrd.elim
    | ret =>
      intro e S2 S3 q1 q2 q3
      exact QD.le (hR _ _ hrd) (hself s' rts hl) e S2 S3 q1 q2 q3
  | req g t ih => exact ⟨hrd.1, ih hrd.2 hag⟩
  | ite c a b iha ihb => exact ⟨fun e => iha (hrd.1 e) hag.1, fun e => ihb (hrd.2 e) hag.2⟩

/-- Values that tell less, in a row of temporaries. -/
theorem mk_sle (f : Cx) {n : Nat} : ∀ {ts : List Nat} {vs ws : List SV} {e e' : List SV}, e.length = e'.length → LeL (SV.avs f e) (SV.avs f e') → sleL vs ws → LeL (SV.avs f ((ts.zip vs).foldl (fun e p => e.set p.1 p.2) e)) (SV.avs f ((ts.zip ws).foldl (fun e p => e.set p.1 p.2) e'))
  | [], vs, ws, e, e', _, h, _ => h
  | t :: ts, [], [], e, e', _, h, _ => h
  | t :: ts, v :: vs, w :: ws, e, e', hl, h, hw => by
    simp only [List.zip_cons_cons, List.foldl_cons]
    refine mk_sle f (n := n) (by rw [List.length_set, List.length_set, hl]) ⟨by rw [avs_len, avs_len, List.length_set, List.length_set, hl], fun i a b ha hb => ?_⟩ hw.2
    rw [avs_set] at ha hb
    by_cases hi : t = i
    · subst hi
      have hlt : t < e.length := by have := (List.getElem?_eq_some_iff.1 ha).1; rw [List.length_set, avs_len] at this; exact this
      rw [List.getElem?_set_self (by rw [avs_len]; exact hlt)] at ha
      rw [List.getElem?_set_self (by rw [avs_len, ← hl]; exact hlt)] at hb
      cases ha
      cases hb
      exact sle1_ok f hw.1
    · rw [List.getElem?_set_ne hi] at ha hb
      exact h.2 i a b ha hb
  | t :: ts, [], _ :: _, e, e', _, _, hw => hw.elim
  | t :: ts, _ :: _, [], e, e', _, _, hw => hw.elim

theorem gets_len (s : St) (ks : List Nat) : (gets s ks).length = ks.length := List.length_map ..
theorem zip_gets (s : St) (ks : List Nat) : ks.zip (gets s ks) = ks.map fun k => (k, s.get k) := by
  induction ks with
  | nil => rfl
  | cons k ks ih => simp only [gets, List.map_cons, List.zip_cons_cons] at ih ⊢; rw [ih]

theorem mk_after {n : Nat} {ks ts : List Nat} {vs ws : List SV} {us : List Upd} {s : St} {x : SX} (h : QD f B Q x (after s n ks ts ws us)) (hl : sleL vs (gets s ks ++ ws)) {σ' : List SO} (hσ : ∀ f, LeSO f σ' (updsO s.σ us)) : QD f B Q x ⟨mk n ((ks ++ ts).zip vs), σ', [], []⟩ := by
  have hz : (ks ++ ts).zip (gets s ks ++ ws) = ks.map (fun k => (k, s.get k)) ++ ts.zip ws := by rw [List.zip_append (gets_len s ks).symm, zip_gets]
  have key : ∀ f, LeL (SV.avs f (mk n ((ks ++ ts).zip vs))) (SV.avs f (mk n (ks.map (fun k => (k, s.get k)) ++ ts.zip ws))) := fun f => by
    rw [← hz]
    exact mk_sle f (n := n) rfl (.refl _) hl
  refine QD.le h fun f => ?_
  have h2 := upds_σ us ⟨mk n (ks.map (fun k => (k, s.get k)) ++ ts.zip ws), s.σ, (List.range n).filter (fun j => !ks.contains j || ts.contains j) ++ s.wl, s.cl⟩
  exact ⟨by show LeL _ (SV.avs f (after s n ks ts ws us).env); unfold after; rw [h2.2]; exact key f, by show LeSO f _ (after s n ks ts ws us).σ; unfold after; rw [h2.1]; exact hσ f⟩

theorem sleL_refl : ∀ vs : List SV, sleL vs vs
  | [] => trivial
  | v :: vs => ⟨(tells_self [v] (fun _ _ => trivial) [0]).1, sleL_refl vs⟩
end Go.Proofs.Ytoofpdmdgofdcaa.X

namespace Go.Proofs.Ytoofpdmdgofdcaa.X
open Go Go.RowKit Go.Proofs.Ytoofpdmdgofdcaa.E
set_option linter.unusedVariables false
set_option linter.unusedSimpArgs false

variable {P : Program} {f : Cx} {B S : AState} {s : St} {K : AEnv → AState → Prop} {Q : AX → AEnv → AState → Prop} {T : Tab} {L : Lps} {rs : Option Nat → Prop}

abbrev toI (n : Nat) : Int := (n : Int)

def toTree (s : St) (n : Nat) (ks outs rts : List Nat) : LS → Tree
  | .out vs us => .leaf .normal (after s n ks outs vs us)
  | .ret vs us => .leaf .ret (after s n [] rts vs us)
  | .req g t => .req g (toTree s n ks outs rts t)
  | .ite c a b => .ite c (toTree s n ks outs rts a) (toTree s n ks outs rts b)
  | .stuck => .stuck

/-- A loop's summary: 'n' temporaries; 'ks' keep what they had; what stands in 'outs' behind it, in 'rts' where it returns. -/
def kl (n : Nat) (ks outs rts : List Nat) (F : St → LS) (s : St) : Tree :=
  match s.env.length == n with
  | true => toTree s n ks outs rts (F s)
  | false => .stuck

theorem toTree_ag {n : Nat} {ks outs rts : List Nat} (hn : s.env.length = n) : ∀ t : LS, allL (AgX s) (toTree s n ks outs rts t)
  | .stuck => trivial
  | .out vs us => after_ag hn
  | .ret vs us => after_ag hn
  | .req g t => toTree_ag hn t
  | .ite c a b => ⟨toTree_ag hn a, toTree_ag hn b⟩
theorem kl_ag (n : Nat) (ks outs rts : List Nat) (F : St → LS) (s : St) : allL (AgX s) (kl n ks outs rts F s) := by
  unfold kl
  split
  · rename_i h; exact toTree_ag (by simpa using h) _
  · trivial

/-- What a summary asks. -/
def okV : LS → Prop
  | .stuck => False
  | .out _ _ => True
  | .ret _ _ => True
  | .req g t => g = true ∧ okV t
  | .ite c a b => (c = true → okV a) ∧ (c = false → okV b)
/-- An end that a summary tells. -/
def accO (kv : List SV) (σ0 : List SO) : LS → List SV → List SO → Prop
  | .out ws o, vs, σ => sleL vs (kv ++ ws) ∧ ∀ f, LeSO f σ (updsO σ0 o)
  | .req _ t, vs, σ => accO kv σ0 t vs σ
  | .ite c a b, vs, σ => (c = true ∧ accO kv σ0 a vs σ) ∨ (c = false ∧ accO kv σ0 b vs σ)
  | _, _, _ => False
def accR (σ0 : List SO) : LS → List SV → List SO → Prop
  | .ret ws o, vs, σ => sleL vs ws ∧ ∀ f, LeSO f σ (updsO σ0 o)
  | .req _ t, vs, σ => accR σ0 t vs σ
  | .ite c a b, vs, σ => (c = true ∧ accR σ0 a vs σ) ∨ (c = false ∧ accR σ0 b vs σ)
  | _, _, _ => False

theorem same_self (g : GT) : GT.same g g = some ⟨rfl⟩ := by
  induction g with
  | pair a b iha ihb => simp only [GT.same, iha, ihb]
  | list a ih => simp only [GT.same, ih]
  | int k => simp [GT.same]
  | _ => rfl
theorem sle1_self (a : SV) : sle1 a a = True := eq_true (sleL_refl [a]).1
theorem sle1_sl (o o' : Bool) (g : GT) (l l' : List g.T) : sle1 (.sl o g l) (.sl o' g l') = ((o = o' ∨ o' = false) ∧ l = l') := by
  simp only [sle1, same_self, GT.cast_rfl]
theorem sle1_i (k k' : IntKind) (x y : Int) : sle1 (.i k x) (.i k' y) = (k = k' ∧ x = y) := rfl
theorem sle1_y (x y : UInt8) : sle1 (.y x) (.y y) = (x = y) := rfl
theorem sle1_s (x y : List UInt8) : sle1 (.s x) (.s y) = (x = y) := rfl
theorem sle1_b (x y : Bool) : sle1 (.b x) (.b y) = (x = y) := rfl
theorem sle1_tt (y : Bool) : sle1 .tt (.b y) = (y = true) := rfl
theorem sle1_ff (y : Bool) : sle1 .ff (.b y) = (y = false) := rfl
theorem sle1_nil (o : Bool) (g : GT) (l : List g.T) : sle1 .nils (.sl o g l) = (l = []) := rfl
theorem sle1_0 (o : Bool) (g : GT) (l : List g.T) : sle1 .sl0 (.sl o g l) = (o = false ∧ l = []) := rfl
theorem sleL_c (a b : SV) (aa bs : List SV) : sleL (a :: aa) (b :: bs) = (sle1 a b ∧ sleL aa bs) := rfl
theorem sleL_n : sleL [] [] = True := rfl
theorem LeSO_self (f : Cx) (σ : List SO) : LeSO f σ σ = True := eq_true (.refl f σ)
theorem LeSO_all (σ : List SO) : (∀ f, LeSO f σ σ) = True := eq_true fun f => .refl f σ
theorem getD_n (σ : List SO) : updsO σ [] = σ := rfl
theorem getD_s (σ : List SO) (u : Upd) (us : List Upd) : updsO σ (u :: us) = updsO (updO σ u) us := rfl
theorem updO_0 (cs : List SV) (r : List SO) (off : Nat) (v : SV) : updO (.cells cs :: r) (.cell 0 off v) = .cells (cs.set off v) :: r := rfl
theorem updO_s (o : SO) (r : List SO) (k off : Nat) (v : SV) : updO (o :: r) (.cell (k + 1) off v) = o :: updO r (.cell k off v) := by
  simp only [updO, List.getElem?_cons_succ]
  cases r[k]? with
  | none => rfl
  | some x => cases x <;> rfl
/-- Objects that tell no more than others. -/
def sleO : List SO → List SO → Prop
  | [], [] => True
  | a :: r, b :: r' => (match a, b with
    | .cells x, .cells y => sleL x y
    | a, b => a = b) ∧ sleO r r'
  | _, _ => False
theorem sleO_ok (f : Cx) : ∀ {σ τ : List SO}, sleO σ τ → LeSO f σ τ
  | [], [], _ => .refl _ _
  | a :: r, b :: r', h => by
    have ih := sleO_ok f h.2
    refine ⟨by simp [ih.1], fun k x y hx hy => ?_⟩
    cases k with
    | succ k => exact ih.2 k x y (by simpa using hx) (by simpa using hy)
    | zero =>
      simp at hx hy
      subst hx
      subst hy
      have h1 := h.1
      cases a with
      | cells x =>
        cases b with
        | cells y => exact sleL_ok f h1
        | vec g l => cases h1
      | vec g l =>
        have h1 : SO.vec g l = b := h1
        subst h1
        exact .refl _
  | [], _ :: _, h => h.elim
  | _ :: _, [], h => h.elim
theorem sleO_c (x y : List SV) (r r' : List SO) : sleO (.cells x :: r) (.cells y :: r') = (sleL x y ∧ sleO r r') := rfl
theorem sleO_n : sleO [] [] = True := rfl
theorem app_c (a : SV) (aa bs : List SV) : (a :: aa) ++ bs = a :: (aa ++ bs) := rfl
theorem app_n (bs : List SV) : [] ++ bs = bs := rfl
theorem gets_c (s : St) (k : Nat) (ks : List Nat) : gets s (k :: ks) = s.get k :: gets s ks := rfl
theorem gets_n (s : St) : gets s [] = [] := rfl
attribute [go_sem] app_c app_n gets_c gets_n sleO_c sleO_n
attribute [go_sem] toI denV denR denL accO accR okV getD_n getD_s updO_0 updO_s List.set_cons_zero List.set_cons_succ sleL_c sleL_n sle1_self sle1_sl sle1_i sle1_y sle1_s sle1_b sle1_tt sle1_ff sle1_nil sle1_0 LeSO_self LeSO_all

theorem toTree_ok {n : Nat} {ks outs rts : List Nat} : ∀ {t : LS}, den (toTree s n ks outs rts t) (QD f B Q) → okV t ∧ (∀ vs σ, accO (gets s ks) s.σ t vs σ → QD f B Q .normal ⟨mk n ((ks ++ outs).zip vs), σ, [], []⟩) ∧ ∀ vs σ, accR s.σ t vs σ → QD f B Q .ret ⟨mk n (rts.zip vs), σ, [], []⟩
  | .stuck, h => h.elim
  | .out ws τ, h => ⟨trivial, fun vs σ k => mk_after h k.1 k.2, fun vs σ k => k.elim⟩
  | .ret ws τ, h => ⟨trivial, fun vs σ k => k.elim, fun vs σ k => mk_after (ks := []) h k.1 k.2⟩
  | .req g t, h => by
    obtain ⟨h1, h2, h3⟩ := toTree_ok h.2
    exact ⟨⟨h.1, h1⟩, h2, h3⟩
  | .ite c a b, h => by
    refine ⟨⟨fun e => (toTree_ok (h.1 e)).1, fun e => (toTree_ok (h.2 e)).1⟩, fun vs σ k => ?_, fun vs σ k => ?_⟩
    · rcases k with ⟨e, k⟩ | ⟨e, k⟩
      · exact (toTree_ok (h.1 e)).2.1 vs σ k
      · exact (toTree_ok (h.2 e)).2.1 vs σ k
    · rcases k with ⟨e, k⟩ | ⟨e, k⟩
      · exact (toTree_ok (h.1 e)).2.2 vs σ k
      · exact (toTree_ok (h.2 e)).2.2 vs σ k

/-- A ghost for a loop. -/
structure Ghost (P : Program) (T : Tab) (L : Lps) (id n : Nat) (body : Code) (ins ks outs rts : List Nat) (s : St) (t : LS) where
  α : Type
  inv : α → Prop
  μ : α → Nat
  V : α → List SV
  J : α → List SO
  x0 : α
  h0 : inv x0
  he : sleL (gets s ins) (V x0)
  hJ : ∀ f, LeSO f s.σ (J x0)
  round : ∀ x, inv x → denV (loopV id ins (ks ++ outs) rts (run P T L body ⟨mk n (ins.zip (V x)), J x, [], []⟩)) (fun vs σ => ∃ y, inv y ∧ μ y < μ x ∧ sleL vs (V y) ∧ ∀ f, LeSO f σ (J y)) (accO (gets s ks) s.σ t) (accR s.σ t)

theorem loopF (hm : P.follows .mixedOrders = true) (hT : TabOK P T) (hL : LAg L) {id n : Nat} {body : Code} (hblk : BlkOK P rs L body) {ins ks outs rts : List Nat} {F : St → LS}
    (H : ∀ s, s.env.length = n → okV (F s) → Nonempty (Ghost P T L id n body ins ks outs rts s (F s))) : LoopF P rs id (.loop body) (kl n ks outs rts F) := by
  intro f B s S Q hf0 hs h
  unfold kl at h
  split at h
  · rename_i hn
    have hn : s.env.length = n := by simpa using hn
    obtain ⟨h1, h2, h3⟩ := toTree_ok h
    obtain ⟨g⟩ := H s hn h1
    exact loop_val hf0 hm hT hL hblk ins (ks ++ outs) rts g.inv g.μ g.V g.J g.x0 hs hn g.h0 g.he (g.hJ f) (accO (gets s ks) s.σ (F s)) (accR s.σ (F s)) g.round h2 h3
  · exact h.elim
end Go.Proofs.Ytoofpdmdgofdcaa.X

namespace Go.Proofs.Ytoofpdmdgofdcaa.X
open Go Go.RowKit Go.ChangeShapes Go.WideShapes Go.ChangeMaps Go.Proofs.Ytoofpdmdgofdcaa.E
set_option linter.unusedVariables false
set_option linter.unusedSimpArgs false

variable {P : Program}

/-- The fields stand one behind the other. -/
def layG (P : Program) : Nat → List Field → Bool
  | _, [] => true
  | k, f :: fs => f.offset == k && layG P (k + P.cellsOf f.type) fs

/-- May data of this type be read as data of its GT? -/
def okG (P : Program) : Nat → TypeId → Bool
  | 0, _ => false
  | n + 1, t => match P.underlying t with
    | some (.slice e) => flatTy P 9 e && decide (0 < P.bytesOf e) && okG P n e
    | some (.struct fs) => layF P 0 fs.toList (P.cellsOf t) && layG P 0 fs.toList && fs.toList.all (fun f => okG P n f.type) && decide (P.cellsOf t = (fs.toList.map fun f => P.cellsOf f.type).sum)
    | some _ => true
    | none => false

def foldG : List (Option GT) → Option GT
  | [] => some .unit
  | a :: r => match a, foldG r with
    | some a, some GT.unit => some a
    | some a, some b => some (.pair a b)
    | _, _ => none

theorem foldG_eq (n : Nat) (fs : List Field) : fs.foldr (fun f r => match gtOf P n f.type, r with
      | some a, some GT.unit => some a
      | some a, some b => some (GT.pair a b)
      | _, _ => none) (some GT.unit) = foldG (fs.map fun f => gtOf P n f.type) := by
  induction fs with
  | nil => rfl
  | cons f fs ih =>
    rw [List.foldr_cons, ih]
    rfl

theorem sh_gt : ∀ (n : Nat) {t : TypeId} {g : GT} {avs : List AV}, gtOf P n t = some g → okG P n t = true → Sh P n t avs → ∃ x : g.T, avs = g.av x
  | 0, t, g, avs, h, _, _ => by cases h
  | n + 1, t, g, avs, h, hok, hsh => by
    simp only [gtOf] at h
    simp only [okG] at hok
    simp only [Sh] at hsh
    cases hu : P.underlying t with
    | none => rw [hu] at h; cases h
    | some d =>
      rw [hu] at h hok hsh
      cases d with
      | bool => cases h; obtain ⟨b, rfl⟩ := hsh; exact ⟨b, rfl⟩
      | string => cases h; obtain ⟨l, _, rfl⟩ := hsh; exact ⟨l, rfl⟩
      | int k =>
        obtain ⟨m, hm, rfl⟩ := hsh
        by_cases hk : k = .u8
        · subst hk
          cases h
          unfold inR at hm
          simp [IntKind.min, IntKind.max, IntKind.signed, IntKind.bits] at hm
          exact ⟨UInt8.ofNat m.toNat, by simp only [GT.av, of_u8 (n := m) (by simp; omega)]⟩
        · have : g = .int k := by cases k <;> first | exact absurd rfl hk | (cases h; rfl)
          subst this
          exact ⟨m, rfl⟩
      | slice e =>
        simp only at h hok hsh
        simp only [Bool.and_eq_true, decide_eq_true_eq] at hok
        obtain ⟨ls, h1, h2, rfl⟩ := hsh hok.1.1 hok.1.2
        split at h
        · rename_i a ha
          cases h
          have each : ∀ ls : List (List AV), (∀ x ∈ ls, x.length = P.cellsOf e ∧ Sh P n e x) → ∃ l : List a.T, l.length = ls.length ∧ ls.flatten = l.flatMap a.av := by
            intro ls
            induction ls with
            | nil => intro _; exact ⟨[], rfl, rfl⟩
            | cons x ls ih =>
              intro hx
              obtain ⟨l, k1, k2⟩ := ih fun y hy => hx y (by simp [hy])
              obtain ⟨y, hy⟩ := sh_gt n ha hok.2 (hx x (by simp)).2
              exact ⟨y :: l, by simp [k1], by simp only [List.flatten_cons, List.flatMap_cons, k2, hy]⟩
          obtain ⟨l, k1, k2⟩ := each ls h2
          exact ⟨l, by simp only [GT.av, k1, k2]⟩
        · cases h
      | struct fs =>
        simp only at h hok hsh
        simp only [Bool.and_eq_true, decide_eq_true_eq] at hok
        obtain ⟨⟨⟨o1, o2⟩, o3⟩, o4⟩ := hok
        obtain ⟨hlen, hf⟩ := hsh o1
        have h := (foldG_eq (P := P) n fs.toList).symm.trans h
        have key : ∀ (l : List Field) (k : Nat) (g : GT) (aa : List AV), layG P k l = true → (∀ f ∈ l, okG P n f.type = true ∧ Sh P n f.type ((aa.drop (f.offset - k)).take (P.cellsOf f.type))) → aa.length = (l.map fun f => P.cellsOf f.type).sum → foldG (l.map fun f => gtOf P n f.type) = some g → ∃ x : g.T, aa = g.av x := by
          intro l
          induction l with
          | nil =>
            intro k g aa _ _ hl hg
            cases hg
            exact ⟨(), List.eq_nil_of_length_eq_zero (by simpa using hl)⟩
          | cons f l ih =>
            intro k g aa hlay hsh hl hg
            simp only [layG, Bool.and_eq_true, beq_iff_eq] at hlay
            obtain ⟨ho, hlay⟩ := hlay
            obtain ⟨hokf, hshf⟩ := hsh f (by simp)
            rw [ho, Nat.sub_self, List.drop_zero] at hshf
            simp only [List.map_cons, List.sum_cons] at hl
            have hoff : ∀ (l : List Field) (k : Nat), layG P k l = true → ∀ f' ∈ l, k ≤ f'.offset := by
              intro l
              induction l with
              | nil => intro k _ f' h; cases h
              | cons a l ih2 =>
                intro k hk f' h
                simp only [layG, Bool.and_eq_true, beq_iff_eq] at hk
                rcases List.mem_cons.1 h with rfl | h
                · omega
                · have := ih2 _ hk.2 f' h; omega
            have hrest : ∀ f' ∈ l, okG P n f'.type = true ∧ Sh P n f'.type (((aa.drop (P.cellsOf f.type)).drop (f'.offset - (k + P.cellsOf f.type))).take (P.cellsOf f'.type)) := fun f' hf' => by
              obtain ⟨q1, q2⟩ := hsh f' (by simp [hf'])
              refine ⟨q1, ?_⟩
              rw [List.drop_drop]
              have := hoff l _ hlay f' hf'
              rw [show P.cellsOf f.type + (f'.offset - (k + P.cellsOf f.type)) = f'.offset - k by omega]
              exact q2
            simp only [List.map_cons, foldG] at hg
            cases ha : gtOf P n f.type with
            | none => rw [ha] at hg; cases hg
            | some a =>
              rw [ha] at hg
              obtain ⟨x, hx⟩ := sh_gt n ha hokf hshf
              have hsplit : aa = aa.take (P.cellsOf f.type) ++ aa.drop (P.cellsOf f.type) := (List.take_append_drop _ _).symm
              cases hb : foldG (l.map fun f => gtOf P n f.type) with
              | none => rw [hb] at hg; cases hg
              | some b =>
                rw [hb] at hg
                obtain ⟨y, hy⟩ := ih (k + P.cellsOf f.type) b (aa.drop (P.cellsOf f.type)) hlay hrest (by rw [List.length_drop, hl]; omega) hb
                cases b with
                | unit =>
                  cases hg
                  refine ⟨x, ?_⟩
                  rw [hsplit, hx, hy]
                  simp only [GT.av, List.append_nil]
                | _ =>
                  cases hg
                  refine ⟨(x, y), ?_⟩
                  rw [hsplit, hx, hy]
                  rfl
        exact key fs.toList 0 g avs o2 (fun f hf' => ⟨List.all_eq_true.1 o3 f hf', by simpa using hf f hf'⟩) (by rw [hlen, o4]) h
      | _ => cases h
end Go.Proofs.Ytoofpdmdgofdcaa.X
