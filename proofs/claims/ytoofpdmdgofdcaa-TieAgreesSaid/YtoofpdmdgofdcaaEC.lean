/- A slice that grows in an object of its own, nil at first: one form for both. Generic in the program; no condition. -/
import Derived.Test.YtoofpdmdgofdcaaEB
import Derived.ProofKit
import Derived.SizedLaws
import Derived.OpenShut
import Derived.Shelf.Sort.Plain
import Derived.Shelf.Slices.In.SortNone
namespace Go.Proofs.Ytoofpdmdgofdcaa.E
open Go Go.RowKit
set_option linter.unusedVariables false
set_option linter.unusedSimpArgs false
variable {P : Program}

/-- What stands ahead of the object, its room, and what is behind its length. -/
structure VecG where
  js : AState
  cap : Nat
  junk : List AV
def vV (σ : AState) (v : VecG) (z n : Nat) : AV := match n with | 0 => .sl .nil 0 [] | n + 1 => .sm (σ.length + v.js.length) 0 (n + 1) v.cap z
def vS (σ : AState) (v : VecG) (n : Nat) (cs : List AV) : AState := match n with | 0 => σ ++ v.js | _ + 1 => σ ++ (v.js ++ [.cells (cs ++ v.junk)])
structure VOK (v : VecG) (z n : Nat) (cs : List AV) : Prop where
  len : cs.length = n * z
  all : 0 < n → (cs ++ v.junk).length = v.cap * z
  cap : 0 < n → n ≤ v.cap
  pl : cs.map AV.pl = cs
theorem vV0 {σ : AState} {v : VecG} {z : Nat} : vV σ v z 0 = .sl .nil 0 [] := rfl
theorem vVs {σ : AState} {v : VecG} {z n : Nat} : vV σ v z (n + 1) = .sm (σ.length + v.js.length) 0 (n + 1) v.cap z := rfl
theorem vV_pos {σ : AState} {v : VecG} {z n : Nat} (h : 0 < n) : vV σ v z n = .sm (σ.length + v.js.length) 0 n v.cap z := by cases n with | zero => omega | succ n => rfl
theorem vS_pos {σ : AState} {v : VecG} {n : Nat} {cs : List AV} (h : 0 < n) : vS σ v n cs = σ ++ (v.js ++ [.cells (cs ++ v.junk)]) := by cases n with | zero => omega | succ n => rfl
theorem vV_pn {σ : AState} {v : VecG} {z n : Nat} : AV.pn (vV σ v z n) = vV σ v z n := by cases n <;> rfl
theorem VOK.nil {z : Nat} (js : AState) : VOK ⟨js, 0, []⟩ z 0 [] := ⟨by simp, by simp, by simp, rfl⟩
theorem VOK.nil0 {v : VecG} {z : Nat} : VOK v z 0 [] := ⟨by simp, by simp, by simp, rfl⟩

theorem appM_vV {K : AEnv → AState → Prop} {env : AEnv} {σ : AState} {d : Option Tmp} {z by_ n m : Nat} {v : VecG} {cs ds : List AV} (hv : VOK v z n cs) (hm : 0 < m) (hds : ds.length = m * z) (hone : ds.all one = true) (hb : 2 * (n + m) * by_ ≤ 281474976710656) (hnm : n + m ≤ 281474976710656) (hpl : ds.map AV.pl = ds)
    (h : ∀ v', VOK v' z (n + m) (cs ++ ds) → K (aput env d (vV σ v' z (n + m))) (vS σ v' (n + m) (cs ++ ds))) : appM K env (vS σ v n cs) d z by_ (vV σ v z n) (m, ds) := by
  cases n with
  | zero =>
    have hcs : cs = [] := List.eq_nil_of_length_eq_zero (by rw [hv.len]; simp)
    subst hcs
    refine appM_vec0 (σ := σ) (js := v.js) hm hds hone (by simpa using hb) (by omega) fun cap' junk' h1 h2 => ?_
    have := h ⟨v.js, cap', junk'⟩ ⟨by simp [hds], fun _ => by simpa [hpl] using h1, fun _ => by simpa using h2, by simp [hpl]⟩
    rw [vV_pos (by omega), vS_pos (by omega)] at this
    simpa [hpl] using this
  | succ n =>
    refine appM_vec (σ := σ) (js := v.js) (junk := v.junk) hv.len hds hone hb hnm (hv.all (by omega)) (hv.cap (by omega)) (fun js' cap' junk' h1 h2 => ?_) hv.pl
    have := h ⟨js', cap', junk'⟩ ⟨by rw [List.length_append, hv.len, hds, ← Nat.add_mul], fun _ => by simpa [hpl] using h1, fun _ => h2, by rw [List.map_append, hpl, hv.pl]⟩
    rw [vV_pos (by omega), vS_pos (by omega)] at this
    simpa [hpl] using this

def vN (n : Nat) (cs : List AV) : AV := match n with | 0 => .sl .nil 0 [] | n + 1 => .sl .no (n + 1) cs
theorem vN_cases {v : VecG} {z n : Nat} {cs : List AV} (hv : VOK v z n cs) : ∃ o, vN n cs = .sl o n cs := by
  cases n with
  | zero =>
    have hcs : cs = [] := List.eq_nil_of_length_eq_zero (by rw [hv.len]; simp)
    subst hcs
    exact ⟨.nil, rfl⟩
  | succ n => exact ⟨.no, rfl⟩
theorem vS_take {σ : AState} {v : VecG} {n : Nat} {cs : List AV} : (vS σ v n cs).take σ.length = σ := by cases n <;> exact List.take_left
theorem frz_vV {σ : AState} {v : VecG} {z n : Nat} {cs : List AV} (hv : VOK v z n cs) : frz σ.length (vS σ v n cs) (vV σ v z n) = vN n cs := by
  cases n with
  | zero => rfl
  | succ n =>
    have h1 : (σ ++ (v.js ++ [AObj.cells (cs ++ v.junk)]))[σ.length + v.js.length]? = some (.cells (cs ++ v.junk)) := by
      rw [List.getElem?_append_right (by omega), List.getElem?_append_right (by omega)]
      simp
    have h2 : List.take ((n + 1) * z) (List.drop 0 (cs ++ v.junk)) = cs := by
      rw [List.drop_zero]
      exact List.take_left' hv.len
    simp only [vV, vS, frz, frz0, Nat.not_lt.2 (Nat.le_add_right _ _), if_false, h1, h2, vN]

theorem AWpZ.weak {n0 : Nat} {rs : Option Nat → Prop} {G : Nat → AV} {c : Code} {Q : AX → AEnv → AState → Prop} {env env' : AEnv} {σ σ' : AState} (h : AWpZ P n0 rs G c Q env' σ') (he : Weak env env') (hs : WeakS σ σ') : AWpZ P n0 rs G c Q env σ :=
  fun g0 w0 D r n a w hn hr h1 h2 h3 => h g0 w0 D r n a w hn hr h1 h2 (h3.weak he hs)
theorem putKn {K : AEnv → AState → Prop} {env : AEnv} {d : Option Tmp} {c : AV} {σ : AState} (h : K (aput env d c) σ) : putK K env d c σ := h

/-! ### A slice that grows as a value, nil at first -/
def oV (z n : Nat) (cs : List AV) : AV := match n with | 0 => .sl .nil 0 [] | n + 1 => .sl (.yes z) (n + 1) cs
theorem oV0 {z : Nat} {cs : List AV} : oV z 0 cs = .sl .nil 0 [] := rfl
theorem oVs {z n : Nat} {cs : List AV} : oV z (n + 1) cs = .sl (.yes z) (n + 1) cs := rfl
theorem oV_pl {z n : Nat} {cs : List AV} (h : cs.length = n * z) : (oV z n cs).pl = .sl .no n cs := by
  cases n with
  | zero =>
    have hcs : cs = [] := List.eq_nil_of_length_eq_zero (by rw [h]; simp)
    subst hcs
    rfl
  | succ n => rfl
def appO (K : AEnv → AState → Prop) (env : AEnv) (σ : AState) (so : Operand) (d : Option Tmp) (sz by_ : Nat) (s : AV) (r : Nat × List AV) : Prop :=
  match s with
  | .sl (.yes z) n cs => z = sz ∧ appK K env σ so d sz by_ n cs r
  | .sl .nil n cs => appK K env σ so d sz by_ n cs r
  | _ => False
def aappendO (P : Program) (G : Nat → AV) (env : AEnv) (σ : AState) (ts : Array TypeId) (xs : Array Operand) (d : Option Tmp) (K : AEnv → AState → Prop) : Prop :=
  match ts[0]?, ts[1]?, xs[0]?, xs[1]? with
  | some t, some t', some s, some x => match P.underlying t' with
    | some (.int _) => False
    | some _ => match P.underlying t with
      | some (.slice e) => match tsize P e, tbytes P e with
        | some sz, some by_ => tzlen P e = some sz ∧ optK (asrc σ sz (ev G env x)) (appO K env σ s d sz by_ (ev G env s))
        | _, _ => False
      | _ => False
    | none => False
  | _, _, _, _ => False
theorem appC.o {G : Nat → AV} {env : AEnv} {σ : AState} {ts : Array TypeId} {xs : Array Operand} {d : Option Tmp} {K : AEnv → AState → Prop} (h : aappendO P G env σ ts xs d K) : appC P G env σ ts xs d K := by
  refine appC.l ?_
  unfold aappendO at h
  unfold aappend
  split at h <;> try exact h.elim
  split at h <;> try exact h.elim
  split at h <;> try exact h.elim
  split at h <;> try exact h.elim
  rename_i h4 h5
  simp only [*]
  obtain ⟨h1, r, h2, h3⟩ := h
  refine ⟨trivial, ?_⟩
  unfold appO at h3
  split at h3 <;> try exact h3.elim
  · rename_i e
    simp only [e]
    exact ⟨h3.1, r, h2, h3.2⟩
  · rename_i e
    simp only [e]
    exact ⟨r, h2, h3⟩
theorem appO_oV {K : AEnv → AState → Prop} {env : AEnv} {σ : AState} {so : Operand} {d : Option Tmp} {sz by_ n m : Nat} {cs ds : List AV} (hcs : cs.length = n * sz) (hm : 0 < m) (hds : ds.length = m * sz) (hone : ds.all one = true) (hb : 2 * (n + m) * by_ ≤ 281474976710656) (hnm : n + m ≤ 281474976710656) (hz : 0 < sz) (hpl : ds.map AV.pl = ds)
    (h : K (aput (setPl env so) d (oV sz (n + m) (cs ++ ds))) σ) : appO K env σ so d sz by_ (oV sz n cs) (m, ds) := by
  have e : oV sz (n + m) (cs ++ ds) = .sl (.yes sz) (n + m) (cs ++ ds) := by
    obtain ⟨k, hk⟩ : ∃ k, n + m = k + 1 := ⟨n + m - 1, by omega⟩
    rw [hk]; rfl
  rw [e] at h
  cases n with
  | zero =>
    have hcs' : cs = [] := List.eq_nil_of_length_eq_zero (by rw [hcs]; simp)
    subst hcs'
    exact ⟨⟨by simp, hds, hone, by simpa using hb, hnm, hz⟩, by rw [hpl]; exact h⟩
  | succ n => exact ⟨rfl, ⟨hcs, hds, hone, hb, hnm, hz⟩, by rw [hpl]; exact h⟩

/-- What the state holds names nothing beyond it. -/
theorem ACalls.cln {G : Nat → AV} {f : FuncId} {args : List AV} {σ : AState} {Q : ARes → AState → Prop} (h : (∀ o ∈ σ, cleanO σ.length o = true) → ACalls P G f args σ Q) : ACalls P G f args σ Q := by
  intro g w vs hs h2 h3 h4 h5
  refine h (fun o ho => ?_) g w vs hs h2 h3 h4 h5
  obtain ⟨id, hid⟩ := List.mem_iff_getElem?.1 ho
  have h0 := hs.obj id o hid
  have hlen : g.ρ.length = σ.length := hs.len
  cases o with
  | cells cs =>
    obtain ⟨c1, us, E', fr', n2, n3, n4, n5, n6, n7, n8⟩ := h0
    refine cleanL_iff.2 fun j c hc => ?_
    have hltj : j < us.size := by rw [n4]; exact (List.getElem?_eq_some_iff.1 hc).1
    have := (n8 j c us[j] hc (Array.getElem?_eq_getElem hltj)).1.clean
    rwa [hlen] at this
  | map es =>
    obtain ⟨c1, us, clock', n2, n3, n4, n6, n7, n8⟩ := h0
    show es.all _ = true
    rw [List.all_eq_true]
    intro e he
    obtain ⟨j, hj⟩ := List.mem_iff_getElem?.1 he
    have hltj : j < us.size := by rw [n4.1]; exact (List.getElem?_eq_some_iff.1 hj).1
    have h2 := n8 j e us[j] hj (Array.getElem?_eq_getElem hltj)
    have k1 := h2.1.clean
    have k2 := h2.2.clean
    rw [hlen] at k1 k2
    simp [k1, k2]
  | loop r es =>
    obtain ⟨c1, n2, n3, n4, n6, n7, n8⟩ := h0
    refine cleanL_iff.2 fun j c hc => ?_
    have hltj : j < r.tmps.size := by rw [n4]; exact (List.getElem?_eq_some_iff.1 hc).1
    have := (n8 j c r.tmps[j] hc (Array.getElem?_eq_getElem hltj)).clean
    rwa [hlen] at this
  | it itn its es =>
    obtain ⟨c1, itx, n2, n3, n4, n6, n7, n8⟩ := h0
    refine cleanL_iff.2 fun j c hc => ?_
    have hltj : j < (#[Value.map itx]).size := by rw [n4]; exact (List.getElem?_eq_some_iff.1 hc).1
    have := (n8 j c (#[Value.map itx])[j] hc (Array.getElem?_eq_getElem hltj)).clean
    rwa [hlen] at this

attribute [go_sem] vV_pn
end Go.Proofs.Ytoofpdmdgofdcaa.E

namespace Go.Proofs.Ytoofpdmdgofdcaa.E
open Go Go.RowKit Go.ChangeShapes Go.WideShapes
set_option linter.unusedVariables false
set_option linter.unusedSimpArgs false

/-- All that is there ahead of the call is memory that does not change. -/
def allS (W : World) : Imm := fun bk o => W.cell? ⟨bk, o, none⟩

/-- A type without slices, pointers and the like. -/
def flatTy (P : Program) : Nat → TypeId → Bool
  | 0, _ => false
  | n + 1, t => match P.underlying t with
    | some .bool | some (.int _) | some .string => true
    | some (.struct fs) => fs.toList.all fun f => flatTy P n f.type
    | _ => false

/-- The fields lie one behind the other. -/
def layF (P : Program) : Nat → List Field → Nat → Bool
  | k, [], n => k == n
  | k, f :: fs, n => f.offset == k && layF P (k + P.cellsOf f.type) fs n
theorem layF_le {P : Program} {n : Nat} : ∀ {l : List Field} {k : Nat}, layF P k l n = true → k ≤ n
  | [], k, h => by simp [layF] at h; omega
  | f :: l, k, h => by
    simp only [layF, Bool.and_eq_true] at h
    have := layF_le h.2
    omega

/-- What cells of a type read as. -/
def Sh (P : Program) : Nat → TypeId → List AV → Prop
  | 0, _, _ => True
  | n + 1, t, avs => match P.underlying t with
    | some .bool => ∃ b, avs = [.b b]
    | some (.int k) => ∃ m, inR k m ∧ avs = [.i k m]
    | some .string => ∃ l : List UInt8, l.length ≤ 140737488355328 ∧ avs = [.s l]
    | some (.slice e) => flatTy P 9 e = true → 0 < P.bytesOf e → ∃ ls : List (List AV), ls.length ≤ 140737488355328 ∧ (∀ x ∈ ls, x.length = P.cellsOf e ∧ Sh P n e x) ∧ avs = [.sl .no ls.length ls.flatten]
    | some (.struct fs) => layF P 0 fs.toList (P.cellsOf t) = true → avs.length = P.cellsOf t ∧ ∀ f ∈ fs.toList, Sh P n f.type ((avs.drop f.offset).take (P.cellsOf f.type))
    | _ => True

section
variable {H : Type} {enc : TypeId × Value → H} {P : Program} {W : World} {base : Nat} {spare : Nat → Bool} {held : Bool}

theorem wf_inR {k : IntKind} {n : Int} (h : (Lit.int k n).wf = true) : inR k n := by
  unfold Lit.wf at h
  simp only [Bool.and_eq_true, decide_eq_true_eq] at h
  exact h

/-- Rows of one length, one behind the other. -/
theorem flatten_get {z : Nat} : ∀ (ls : List (List AV)) (i k : Nat), (∀ x ∈ ls, x.length = z) → k < z → ls.flatten[i * z + k]? = (ls[i]?).bind (·[k]?)
  | [], i, k, _, _ => by simp
  | x :: ls, 0, k, h, hk => by
    have := h x (by simp)
    simp only [List.flatten_cons, Nat.zero_mul, Nat.zero_add, List.getElem?_cons_zero, Option.bind_some]
    rw [List.getElem?_append_left (by omega)]
  | x :: ls, i + 1, k, h, hk => by
    have hx := h x (by simp)
    simp only [List.flatten_cons, List.getElem?_cons_succ]
    rw [List.getElem?_append_right (by rw [hx, Nat.add_mul]; omega), ← flatten_get ls i k (fun y hy => h y (by simp [hy])) hk]
    congr 1
    rw [hx, Nat.add_mul]
    omega
theorem flatten_len {z : Nat} : ∀ (ls : List (List AV)), (∀ x ∈ ls, x.length = z) → ls.flatten.length = ls.length * z
  | [], _ => by simp
  | x :: ls, h => by
    have hx := h x (by simp)
    simp only [List.flatten_cons, List.length_append, List.length_cons, hx, flatten_len ls (fun y hy => h y (by simp [hy])), Nat.add_mul]
    omega

theorem cells_get {a : Addr} {n : Nat} {cs : List Value} (h : W.cells? base a n = some cs) : cs.length = n ∧ ∀ i, i < n → W.cell? (a.add i) = cs[i]? := by
  unfold World.cells? at h
  split at h
  · have key : ∀ (l : List Nat) (cs : List Value), (l.mapM fun i => W.cell? (a.add i)) = some cs → cs.length = l.length ∧ ∀ j, j < l.length → (l[j]?).bind (fun i => W.cell? (a.add i)) = cs[j]? := by
      intro l
      induction l with
      | nil => intro cs h; simp at h; subst h; simp
      | cons x l ih =>
        intro cs h
        rw [List.mapM_cons] at h
        cases hx : W.cell? (a.add x) with
        | none => rw [hx] at h; simp at h
        | some v =>
          rw [hx] at h
          cases hl : (l.mapM fun i => W.cell? (a.add i)) with
          | none => rw [hl] at h; simp at h
          | some vs =>
            rw [hl] at h
            simp at h
            subst h
            obtain ⟨i1, i2⟩ := ih vs hl
            refine ⟨by simp [i1], fun j hj => ?_⟩
            cases j with
            | zero => simp [hx]
            | succ j => simpa using i2 j (by simpa using hj)
    obtain ⟨k1, k2⟩ := key _ _ h
    refine ⟨by simpa using k1, fun i hi => ?_⟩
    have := k2 i (by simpa using hi)
    rw [List.getElem?_range hi] at this
    exact this
  · cases h

/-- A row of cells reads as abstract values, by its type. 'hsp': an address in it is a plain one. -/
theorem open_row : ∀ (fuel : Nat) (t : TypeId) (cs : List Value) (d : DataW H) (ps : List MemPlace), DataW.trod enc P W base spare held fuel t cs = some (d, ps) → (∀ n ∈ d.weights P t, n ≤ reachBytes) →
    ((∃ n, flatTy P n t = true) ∨ ∀ c ∈ cs, ∀ a l k, c = .slice (some a) l k → a.spot = none) → ∃ avs : List AV, avs.length = cs.length ∧ (∀ (j : Nat) (c : AV) (v : Value), avs[j]? = some c → cs[j]? = some v → R (allS W) [] c v ∧ noOwn c = true) ∧ ∀ n, Sh P n t avs := by
  intro fuel
  induction fuel using Nat.strongRecOn with
  | _ fuel ih =>
  intro t cs d ps h hw hsp
  have hother : (∀ n, Sh P n t (List.replicate cs.length .u)) → ∃ avs : List AV, avs.length = cs.length ∧ (∀ (j : Nat) (c : AV) (v : Value), avs[j]? = some c → cs[j]? = some v → R (allS W) [] c v ∧ noOwn c = true) ∧ ∀ n, Sh P n t avs := fun hS =>
    ⟨List.replicate cs.length .u, by simp, (fun j c v hc hv => by
      rw [List.getElem?_replicate] at hc
      split at hc
      · cases hc; exact ⟨.u v, rfl⟩
      · cases hc), hS⟩
  cases hu : P.underlying t with
  | none => exact hother fun n => by cases n with | zero => trivial | succ n => simp only [Sh, hu]
  | some td =>
    cases td with
    | bool =>
      obtain ⟨b, rfl, _⟩ := DataW.trod_bool hu h
      refine ⟨[.b b], rfl, fun j c v hc hv => ?_, fun n => by cases n with | zero => trivial | succ n => simp only [Sh, hu]; exact ⟨b, rfl⟩⟩
      cases j with
      | zero => simp at hc hv; subst hc hv; exact ⟨.b b, rfl⟩
      | succ j => simp at hc
    | int k =>
      obtain ⟨m, rfl, _, hwf⟩ := DataW.trod_int hu h
      refine ⟨[.i k m], rfl, fun j c v hc hv => ?_, fun n => by cases n with | zero => trivial | succ n => simp only [Sh, hu]; exact ⟨m, wf_inR hwf, rfl⟩⟩
      cases j with
      | zero => simp at hc hv; subst hc hv; exact ⟨.i k m (wf_inR hwf), rfl⟩
      | succ j => simp at hc
    | string =>
      obtain ⟨s, rfl, hx, _⟩ := DataW.trod_string hu h
      simp only [Prod.mk.injEq] at hx
      obtain ⟨rfl, rfl⟩ := hx
      have hl : s.data.toList.length ≤ reachBytes := hw _ (by simp [DataW.weights])
      have hr : reachBytes < 140737488355328 := by decide
      refine ⟨[.s s.data.toList], rfl, fun j c v hc hv => ?_, fun n => by cases n with | zero => trivial | succ n => simp only [Sh, hu]; exact ⟨_, by omega, rfl⟩⟩
      cases j with
      | zero => simp at hc hv; subst hc hv; exact ⟨.s s.data.toList (by omega), rfl⟩
      | succ j => simp at hc
    | slice e =>
      rcases DataW.trod_slice hu h with ⟨rfl, hx⟩ | ⟨a, len, cap, elems, rest, m, hfu, rfl, hx, hb, hl, hm, hlen, hel, _, _⟩
      · refine ⟨[.sl .no 0 []], rfl, fun j c v hc hv => ?_, fun n => by cases n with | zero => trivial | succ n => simp only [Sh, hu]; exact fun _ _ => ⟨[], by simp, by simp, rfl⟩⟩
        cases j with
        | zero => simp at hc hv; subst hc hv; exact ⟨.sl0 .no, rfl⟩
        | succ j => simp at hc
      · by_cases hfl : flatTy P 9 e = true ∧ 0 < P.bytesOf e
        · obtain ⟨hfl, hby⟩ := hfl
          simp only [Prod.mk.injEq] at hx
          obtain ⟨rfl, rfl⟩ := hx
          have hspot : a.spot = none := by
            rcases hsp with ⟨n, hn⟩ | hsp
            · cases n with
              | zero => cases hn
              | succ n => simp [flatTy, hu] at hn
            · exact hsp _ (by simp) a len cap rfl
          obtain ⟨bk, off, sp⟩ := a
          simp only at hspot
          subst hspot
          have hwl : (elems.length + rest.length) * P.bytesOf e ≤ reachBytes := hw _ (by simp [DataW.weights, hu])
          have hr : reachBytes < 140737488355328 := by decide
          have hll : len ≤ 140737488355328 := by
            have : elems.length + rest.length ≤ (elems.length + rest.length) * P.bytesOf e := Nat.le_mul_of_pos_right _ hby
            omega
          have hwe : ∀ (i : Nat) (y : DataW H × List MemPlace), elems[i]? = some y → ∀ n ∈ y.1.weights P e, n ≤ reachBytes := fun i y hy n hn => by
            refine hw n ?_
            have key : ∀ (l : List (DataW H)), y.1 ∈ l → n ∈ DataW.weightsAll P e l := by
              intro l
              induction l with
              | nil => intro h; simp at h
              | cons z l ih =>
                intro hz
                simp only [DataW.weightsAll, List.mem_append]
                rcases List.mem_cons.1 hz with h1 | h1
                · left; rw [← h1]; exact hn
                · right; exact ih h1
            have hmem := key (elems.map (·.1)) (List.mem_map.2 ⟨y, List.mem_of_getElem? hy, rfl⟩)
            simp only [DataW.weights, hu, List.mem_cons, List.mem_append]
            exact .inr (.inl hmem)
          have each : ∀ k, k ≤ len → ∃ ls : List (List AV), ls.length = k ∧ (∀ x ∈ ls, x.length = P.cellsOf e ∧ ∀ n, Sh P n e x) ∧ ∀ i x, ls[i]? = some x → ∀ (j : Nat) (c : AV), x[j]? = some c → ∃ v, W.cell? ⟨bk, off + (i * P.cellsOf e + j), none⟩ = some v ∧ R (allS W) [] c v := by
            intro k
            induction k with
            | zero => intro _; exact ⟨[], rfl, by simp, by simp⟩
            | succ k ihk =>
              intro hk
              obtain ⟨ls, h1, h2, h3⟩ := ihk (by omega)
              have hk' := hel k (by omega)
              have hek : elems[k]? = some (elems[k]'(by omega)) := List.getElem?_eq_getElem (by omega)
              rw [hek] at hk'
              cases hcs : W.cells? base (Addr.add ⟨bk, off, none⟩ (k * P.cellsOf e)) (P.cellsOf e) with
              | none => rw [hcs] at hk'; cases hk'
              | some cs =>
                rw [hcs] at hk'
                have hk'' : DataW.trod enc P W base spare held m e cs = some (elems[k]'(by omega)) := hk'
                obtain ⟨g1, g2⟩ := cells_get hcs
                obtain ⟨avs, a1, a2, a3⟩ := ih m (by omega) e cs (elems[k]'(by omega)).1 (elems[k]'(by omega)).2 hk'' (hwe k _ hek) (.inl ⟨9, hfl⟩)
                refine ⟨ls ++ [avs], by simp [h1], fun x hx => ?_, fun i x hx j c hc => ?_⟩
                · rcases List.mem_append.1 hx with hx | hx
                  · exact h2 x hx
                  · simp at hx; subst hx; exact ⟨by omega, a3⟩
                · rcases Nat.lt_or_ge i ls.length with hi | hi
                  · rw [List.getElem?_append_left hi] at hx
                    exact h3 i x hx j c hc
                  · rw [List.getElem?_append_right hi] at hx
                    have : i = k := by
                      have := (List.getElem?_eq_some_iff.1 hx).1
                      simp at this
                      omega
                    subst this
                    simp [h1] at hx
                    subst hx
                    have hj : j < avs.length := (List.getElem?_eq_some_iff.1 hc).1
                    have hj' : j < cs.length := by omega
                    have hv := g2 j (by omega)
                    rw [List.getElem?_eq_getElem hj'] at hv
                    refine ⟨cs[j], ?_, (a2 j c cs[j] hc (List.getElem?_eq_getElem hj')).1⟩
                    have e1 : (Addr.add (Addr.add ⟨bk, off, none⟩ (i * P.cellsOf e)) j) = ⟨bk, off + (i * P.cellsOf e + j), none⟩ := by rw [Addr.add_lit, Addr.add_lit, Nat.add_assoc]
                    rw [e1] at hv
                    exact hv
          obtain ⟨ls, l1, l2, l3⟩ := each len (Nat.le_refl _)
          refine ⟨[.sl .no ls.length ls.flatten], rfl, fun j c v hc hv => ?_, fun n => by cases n with | zero => trivial | succ n => simp only [Sh, hu]; exact fun _ _ => ⟨ls, by omega, fun x hx => ⟨(l2 x hx).1, (l2 x hx).2 n⟩, rfl⟩⟩
          cases j with
          | zero =>
            simp at hc hv
            subst hc hv
            have hz : ∀ j c, ls.flatten[j]? = some c → ∃ v, W.cell? ⟨bk, off + j, none⟩ = some v ∧ R (allS W) [] c v := fun j c hj => by
              have hlen' := flatten_len ls (fun x hx => (l2 x hx).1)
              have hjl : j < ls.length * P.cellsOf e := by rw [← hlen']; exact (List.getElem?_eq_some_iff.1 hj).1
              have hzp : 0 < P.cellsOf e := by
                rcases Nat.eq_zero_or_pos (P.cellsOf e) with h0 | h0
                · rw [h0] at hjl; omega
                · exact h0
              have ej : j = j / P.cellsOf e * P.cellsOf e + j % P.cellsOf e := by rw [Nat.mul_comm]; exact (Nat.div_add_mod j _).symm
              have hg := flatten_get ls (j / P.cellsOf e) (j % P.cellsOf e) (fun x hx => (l2 x hx).1) (Nat.mod_lt _ hzp)
              rw [← ej, hj] at hg
              cases hx : ls[j / P.cellsOf e]? with
              | none => rw [hx] at hg; cases hg
              | some x =>
                rw [hx] at hg
                obtain ⟨v, q1, q2⟩ := l3 _ x hx (j % P.cellsOf e) c hg.symm
                rw [← ej] at q1
                exact ⟨v, q1, q2⟩
            refine ⟨?_, rfl⟩
            rw [l1]
            refine .sl .no (by simp) len ls.flatten bk off cap hl (by omega) (fun j => (W.cell? ⟨bk, off + j, none⟩).getD undef) (fun j c hj => ?_) (fun j c hj => ?_)
            · obtain ⟨v, q1, _⟩ := hz j c hj
              simp only [allS, q1, Option.getD_some]
            · obtain ⟨v, q1, q2⟩ := hz j c hj
              simp only [q1, Option.getD_some]
              exact q2
          | succ j => simp at hc
        · exact hother fun n => by
            cases n with
            | zero => trivial
            | succ n => simp only [Sh, hu]; exact fun h1 h2 => absurd ⟨h1, h2⟩ hfl
    | struct fs =>
      by_cases hlay : layF P 0 fs.toList (P.cellsOf t) = true
      · obtain ⟨xs, m, rfl, hx, hcl, hxl, hel⟩ := DataW.trod_struct hu h
        simp only [Prod.mk.injEq] at hx
        obtain ⟨rfl, rfl⟩ := hx
        have hfield : ∀ f ∈ fs.toList, ∃ av : List AV, av.length = ((cs.drop f.offset).take (P.cellsOf f.type)).length ∧ (∀ (j : Nat) (c : AV) (v : Value), av[j]? = some c → ((cs.drop f.offset).take (P.cellsOf f.type))[j]? = some v → R (allS W) [] c v ∧ noOwn c = true) ∧ ∀ n, Sh P n f.type av := fun f hf => by
          obtain ⟨i, hi⟩ := List.mem_iff_getElem?.1 hf
          have hi' : fs[i]? = some f := by simpa using hi
          have hlt : i < fs.size := (Array.getElem?_eq_some_iff.1 hi').1
          have h1 := hel i f hi'
          have hxi : xs[i]? = some (xs[i]'(by omega)) := List.getElem?_eq_getElem (by omega)
          rw [hxi] at h1
          refine ih m (by omega) f.type _ (xs[i]'(by omega)).1 (xs[i]'(by omega)).2 h1 (fun n hn => hw n ?_) ?_
          · simp only [DataW.weights, hu]
            exact DataW.weights_mem_each (j := i) (t := f.type) (d := (xs[i]'(by omega)).1) (by simp [hi']) (by simp [hxi]) n hn
          · rcases hsp with ⟨n, hn⟩ | hsp
            · left
              cases n with
              | zero => cases hn
              | succ n =>
                simp only [flatTy, hu, List.all_eq_true] at hn
                exact ⟨n, hn f hf⟩
            · right
              intro c hc
              exact hsp c (List.mem_of_mem_drop (List.mem_of_mem_take hc))
        have key : ∀ (l : List Field) (k : Nat), layF P k l cs.length = true → (∀ f ∈ l, f ∈ fs.toList) → ∃ avs : List AV, avs.length = cs.length - k ∧ (∀ (j : Nat) (c : AV) (v : Value), avs[j]? = some c → cs[k + j]? = some v → R (allS W) [] c v ∧ noOwn c = true) ∧ ∀ f ∈ l, k ≤ f.offset ∧ ∀ n, Sh P n f.type ((avs.drop (f.offset - k)).take (P.cellsOf f.type)) := by
          intro l
          induction l with
          | nil => intro k hk _; exact ⟨[], by simp [layF] at hk; simp [hk], by simp, by simp⟩
          | cons f r ihl =>
            intro k hk hmem
            simp only [layF, Bool.and_eq_true, beq_iff_eq] at hk
            obtain ⟨hk1, hk2⟩ := hk
            have hle := layF_le hk2
            obtain ⟨av, a1, a2, a3⟩ := hfield f (hmem f (by simp))
            have a1' : av.length = P.cellsOf f.type := by rw [a1, List.length_take, List.length_drop]; omega
            obtain ⟨avs, b1, b2, b3⟩ := ihl _ hk2 (fun g hg => hmem g (by simp [hg]))
            refine ⟨av ++ avs, by rw [List.length_append, a1', b1]; omega, fun j c v hc hv => ?_, fun g hg => ?_⟩
            · rcases Nat.lt_or_ge j av.length with hj | hj
              · rw [List.getElem?_append_left hj] at hc
                refine a2 j c v hc ?_
                rw [List.getElem?_take_of_lt (by omega), List.getElem?_drop, hk1]
                exact hv
              · rw [List.getElem?_append_right hj] at hc
                refine b2 (j - av.length) c v hc ?_
                rw [← hv]
                congr 1
                omega
            · rcases List.mem_cons.1 hg with rfl | hg
              · refine ⟨by omega, fun n => ?_⟩
                rw [hk1, Nat.sub_self, List.drop_zero, List.take_left' a1']
                exact a3 n
              · obtain ⟨c1, c2⟩ := b3 g hg
                refine ⟨by omega, fun n => ?_⟩
                have e1 : (av ++ avs).drop (g.offset - k) = avs.drop (g.offset - (k + P.cellsOf f.type)) := by
                  rw [show g.offset - k = av.length + (g.offset - (k + P.cellsOf f.type)) by omega, ← List.drop_drop]
                  simp
                rw [e1]
                exact c2 n
        obtain ⟨avs, b1, b2, b3⟩ := key fs.toList 0 (by rw [hcl]; exact hlay) (fun f hf => hf)
        refine ⟨avs, by omega, fun j c v hc hv => b2 j c v hc (by rw [Nat.zero_add]; exact hv), fun n => by cases n with | zero => trivial | succ n => simp only [Sh, hu]; exact fun _ => ⟨by omega, fun f hf => (b3 f hf).2 n⟩⟩
      · exact hother fun n => by cases n with | zero => trivial | succ n => simp only [Sh, hu]; exact fun h1 => absurd h1 hlay
    | _ => exact hother fun n => by cases n with | zero => trivial | succ n => simp only [Sh, hu]

theorem trodAll_stays (hl : laidOutB P = true) {W' : World} {sp : Nat → Bool} : ∀ {ts : List TypeId} {vs : List Value} {ds : List (DataW H)} {ps : List MemPlace}, (∀ t ∈ ts, P.readableRec t = true ∧ t < P.types.size) → DataW.TrodAll enc P W 0 (fun _ => true) true ts vs ds ps →
    (∀ x ∈ ps, W.sameAt W' x) → (∀ x ∈ ps, sp x.block = true) → DataW.TrodAll enc P W' 0 sp true ts vs ds ps
  | [], [], [], ps, _, h, _, _ => h
  | t :: ts, v :: vs, d :: ds, ps, ht, h, h1, h2 => by
    obtain ⟨p, q, hp, hq, rfl⟩ := h
    have ht0 := ht t (by simp)
    exact ⟨p, q, Go.WideElems.Trod_stays hl ht0.1 ht0.2 hp (fun x hx => h1 x (by simp [hx])) (fun x hx => h2 x (by simp [hx])), trodAll_stays hl (fun t ht' => ht t (by simp [ht'])) hq (fun x hx => h1 x (by simp [hx])) (fun x hx => h2 x (by simp [hx])), rfl⟩
  | [], _ :: _, _, _, _, h, _, _ => h.elim
  | [], [], _ :: _, _, _, h, _, _ => h.elim
  | _ :: _, [], _, _, _, h, _, _ => h.elim
  | _ :: _, _ :: _, [], _, _, h, _, _ => h.elim

/-- A law, from its contract. -/
theorem law_post {f : FuncId} {fn : Func} {c : Code} {s : ChangeSpec} {args : Array Value} {ds gs : List (DataW H)} {before : List MemPlace} {tb : TypeId} {cargs : List AV} (hf : P.funcs[f]? = some fn) (hb : fn.body = some c) (hng : (fn.name == "runtime.NumGoroutine") = false)
    (hl : laidOutB P = true) (hread : (fn.params.toList.all fun t => P.readableRec t && decide (t < P.types.size)) = true) (hrt : fn.resultTypes = #[tb]) (htb : P.underlying tb = some .bool)
    (hW : DataW.Whole enc P fn.params.toList s.vars false W args.toList ds gs before) (hsv : s.vars = []) (hs : s.fn H ds = { results := [.lit (.bool true)], args := ds })
    (hcl : cargs.length = args.size) (hR : ∀ (j : Nat) (c : AV) (v : Value), cargs[j]? = some c → args[j]? = some v → R (allS W) [] c v ∧ noOwn c = true) (hc : ACalls P G0 f cargs [] (retIs (.b true) [])) :
    Calls P f args W fun e W' => ∃ v, e = .returned v ∧ s.post enc P fn false true false false W args v W' := by
  have hW' := hW
  obtain ⟨p, q, hA, hV, rfl, hfz, hnd⟩ := hW
  rw [hsv] at hV
  obtain ⟨rfl, rfl⟩ := trodVars_none hV
  have hread' : ∀ t ∈ fn.params.toList, P.readableRec t = true ∧ t < P.types.size := fun t ht => by
    have := List.all_eq_true.1 hread t ht
    simpa using this
  have key := hc { S := allS W, ρ := [], ow := fun _ => none } W args ⟨fun bk o v h => h, rfl, fun i j bk h => by simp at h, fun id o h => by simp at h, fun bk s h e hh => by cases hh⟩ (fun bk s h e => by cases e) (G0_ok _) hcl.symm
    (fun j c v h1 h2 => ⟨(hR j c v h1 h2).1, noOwn_pl (hR j c v h1 h2).2 _ j v⟩)
  rw [enter_run hf hb hng] at key
  have key : Calls P f args W _ := key
  refine key.mono fun e W' hp => ?_
  cases e with
  | panicked ch => obtain ⟨x, v, σ', g', _, ⟨hr, _⟩, _⟩ := hp; cases hr
  | outgrown => exact hp.elim
  | returned v =>
    obtain ⟨r, σ', g', ⟨hr, _⟩, hx, _, hr2, _, _⟩ := hp
    cases hr
    have hv : v = .bool true := by cases hr2; rfl
    subst hv
    have hblk : ∀ k, k < W.heap.size → W'.heap[k]? = W.heap[k]? := fun k hk => (hx.keep k hk (fun id => by simp) rfl).1
    have hbel : Below W.heap.size W W' := ⟨hx.os, hx.tape, hx.output, hx.size, hblk⟩
    rw [List.append_nil] at hW' hfz hnd
    have hlt : ∀ x ∈ p, x.block < W.heap.size := fun x hx => hW'.lt x hx
    have hargs : ∀ sp : Nat → Bool, (∀ x ∈ p, sp x.block = true) → DataW.TrodAll enc P W' 0 sp true fn.params.toList args.toList ds p := fun sp hsp => trodAll_stays hl hread' hA (fun x hx => hbel.same (hlt x hx)) hsp
    have hres : ∀ (b : Nat) (sp : Nat → Bool) (hd : Bool), DataW.TrodAll enc P W' b sp hd fn.resultTypes.toList ((Value.bool true).resultList fn.resultTypes.size) [.lit (.bool true)] [] := fun b sp hd => by
      rw [hrt]
      exact trodAll_mk1 (shut_bool htb true)
    have hs' : s.fn H (ds ++ []) = { results := [.lit (.bool true)], args := ds } := by rw [List.append_nil]; exact hs
    have hold : ∀ x ∈ p, (fun b => decide (b < W.heap.size)) x.block = true := fun x hx => by simpa using hlt x hx
    refine ⟨_, rfl, ds, [], p, [], p, [], hW', ?_, ?_, ?_, World.keptBut_mono (fun x hx => ⟨hx, .inr (.inl hx)⟩) (hbel.frame (· ∈ p)), fun _ => ?_⟩
    · rw [hs']; exact hres _ _ _
    · rw [hs']; exact hargs _ hold
    · rw [hs', hsv]; rfl
    · refine ⟨ok_one (by rw [hrt]) rfl (okWide_bool_mk htb _), _, [], ([] ++ p) ++ [], ⟨[] ++ p, [], trodAll_append (hargs (fun _ => true) (fun _ _ => rfl)) (hres _ _ _), by rw [hsv]; rfl, rfl, fun b off hp => ?_, fun ha => by cases ha⟩, ?_⟩
      · have hin : MemPlace.cell b off ∈ p := by simpa using hp
        rw [hbel.frozen (hlt _ hin)]
        exact hfz b off (by simpa using hin)
      · intro x hx _
        simpa using hx
end
end Go.Proofs.Ytoofpdmdgofdcaa.E

namespace Go.Proofs.Ytoofpdmdgofdcaa.E
open Go Go.RowKit Go.ChangeShapes Go.WideShapes Go.ChangeMaps
set_option linter.unusedVariables false
set_option linter.unusedSimpArgs false
section
variable {H : Type} {enc : TypeId × Value → H} {P : Program} {W : World} {base b0 : Nat} {spare : Nat → Bool} {held : Bool} {r : Reach}

theorem okWide_spot {u : TypeId} {a : Addr} {l k : Nat} (h : Cell.okWide P W r b0 u (.slice (some a) l k)) : a.spot = none := by
  unfold Cell.okWide at h
  split at h
  all_goals first
    | (rename_i e1; cases e1; done)
    | skip
  all_goals try (rename_i e1 e2; cases e2; done)
  unfold Cell.ok at h
  split at h
  all_goals try (rename_i e1 e2; cases e2; done)
  all_goals first
    | exact h.elim
    | (rename_i e1 e2; cases e2; exact h.2.2.2.1)
    | (rename_i e2; cases e2; exact h.2.2.2.1)

theorem cell_of_okWide {t : TypeId} {td : TypeDesc} {v : Value} (ht : P.underlying t = some td) (hns : aggT td = false) (h : Value.okWide P W r b0 t v) : Cell.okWide P W r b0 t v := by
  unfold Value.okWide at h
  rw [ht] at h
  cases td <;> first | exact h | (simp [aggT] at hns)

/-- One argument that is no aggregate. -/
theorem open_one {t : TypeId} {td : TypeDesc} {v : Value} {d : DataW H} {ps : List MemPlace} (ht : P.underlying t = some td) (hns : aggT td = false) (hna : ∀ cs, v ≠ .agg cs) (hval : Value.okWide P W r b0 t v) (hd : DataW.Trod enc P W base spare held t v d ps) (hw : ∀ n ∈ d.weights P t, n ≤ reachBytes) :
    ∃ c : AV, R (allS W) [] c v ∧ noOwn c = true ∧ ∀ n, Sh P n t [c] := by
  obtain ⟨fuel, hf⟩ := hd
  have hc : v.cells.toList = [v] := by cases v <;> first | rfl | exact absurd rfl (hna _)
  rw [hc] at hf
  have hcell := cell_of_okWide ht hns hval
  obtain ⟨avs, h1, h2, h3⟩ := open_row fuel t [v] d ps hf hw (.inr fun c hc a l k e => by
    simp at hc
    subst hc
    subst e
    exact okWide_spot hcell)
  match avs, h1 with
  | [c], _ =>
    have := h2 0 c v rfl rfl
    exact ⟨c, this.1, this.2, h3⟩

theorem open_agg {t : TypeId} {fs : Array Field} {v : Value} {d : DataW H} {ps : List MemPlace} (ht : P.underlying t = some (.struct fs)) (hval : Value.okWide P W r b0 t v) (hd : DataW.Trod enc P W base spare held t v d ps) (hw : ∀ n ∈ d.weights P t, n ≤ reachBytes) :
    ∃ avs : List AV, R (allS W) [] (.agg avs) v ∧ (∀ c ∈ avs, noOwn c = true) ∧ ∀ n, Sh P n t avs := by
  unfold Value.okWide at hval
  rw [ht] at hval
  obtain ⟨cs, rfl, hcs, ts, _, _, hrow⟩ := hval
  obtain ⟨fuel, hf⟩ := hd
  have hc : (Value.agg cs).cells.toList = cs.toList := rfl
  rw [hc] at hf
  obtain ⟨avs, h1, h2, h3⟩ := open_row fuel t cs.toList d ps hf hw (.inr fun c hc a l k e => by
    obtain ⟨i, hi⟩ := List.mem_iff_getElem?.1 hc
    obtain ⟨u, _, hu⟩ := hrow i c (by simpa using hi)
    subst e
    exact okWide_spot hu)
  refine ⟨avs, .agg avs cs (by simpa using h1.symm) (fun j c v hc hv => (h2 j c v hc (by simpa using hv)).1), fun c hc => ?_, h3⟩
  obtain ⟨j, hj⟩ := List.mem_iff_getElem?.1 hc
  have hlt : j < cs.toList.length := by rw [← h1]; exact (List.getElem?_eq_some_iff.1 hj).1
  exact (h2 j c _ hj (List.getElem?_eq_getElem hlt)).2

theorem open_sl {t e : TypeId} {v : Value} {d : DataW H} {ps : List MemPlace} (ht : P.underlying t = some (.slice e)) (hval : Value.okWide P W r b0 t v) (hd : DataW.Trod enc P W base spare held t v d ps) (hw : ∀ n ∈ d.weights P t, n ≤ reachBytes) :
    ∃ c : AV, R (allS W) [] c v ∧ noOwn c = true ∧ ∀ n, Sh P n t [c] := by
  obtain ⟨a, len, cap, rfl⟩ := okWide_slice ht hval
  exact open_one ht rfl (fun cs e => by cases e) hval hd hw
theorem open_in {t : TypeId} {k : IntKind} {v : Value} {d : DataW H} {ps : List MemPlace} (ht : P.underlying t = some (.int k)) (hval : Value.okWide P W r b0 t v) (hd : DataW.Trod enc P W base spare held t v d ps) :
    ∃ n, inR k n ∧ R (allS W) [] (.i k n) v ∧ noOwn (.i k n) = true := by
  obtain ⟨n, rfl, _, _, hwf⟩ := open_int ht hval hd
  exact ⟨n, wf_inR hwf, .i k n (wf_inR hwf), rfl⟩
theorem open_st {t : TypeId} {v : Value} {d : DataW H} {ps : List MemPlace} (ht : P.underlying t = some .string) (hval : Value.okWide P W r b0 t v) (hd : DataW.Trod enc P W base spare held t v d ps) (hw : ∀ n ∈ d.weights P t, n ≤ reachBytes) :
    ∃ l : List UInt8, l.length ≤ 140737488355328 ∧ R (allS W) [] (.s l) v ∧ noOwn (.s l) = true := by
  obtain ⟨s, rfl, rfl, _, _⟩ := open_string ht hval hd
  have h1 : s.data.toList.length ≤ reachBytes := hw _ (by simp [DataW.weights])
  have h2 : reachBytes < 140737488355328 := by decide
  exact ⟨s.data.toList, by omega, .s s.data.toList (by omega), rfl⟩
theorem open_bo {t : TypeId} {v : Value} {d : DataW H} {ps : List MemPlace} (ht : P.underlying t = some .bool) (hval : Value.okWide P W r b0 t v) (hd : DataW.Trod enc P W base spare held t v d ps) :
    ∃ b : Bool, R (allS W) [] (.b b) v ∧ noOwn (.b b) = true := by
  obtain ⟨b, rfl, _, _⟩ := open_bool ht hval hd
  exact ⟨b, .b b, rfl⟩
theorem u8_of {n : Int} (h : inR .u8 n) : ∃ b : UInt8, n = (b.toNat : Int) := by
  unfold inR at h
  simp [IntKind.min, IntKind.max, IntKind.signed, IntKind.bits] at h
  exact ⟨UInt8.ofNat n.toNat, by simp [UInt8.toNat_ofNat']; omega⟩
theorem u16_of {n : Int} (h : inR .u16 n) : ∃ b : UInt16, n = (b.toNat : Int) := by
  unfold inR at h
  simp [IntKind.min, IntKind.max, IntKind.signed, IntKind.bits] at h
  exact ⟨UInt16.ofNat n.toNat, by simp [UInt16.toNat_ofNat']; omega⟩

/-! ### Slices, as lists -/
theorem sh_slice {α : Type} {t e : TypeId} {c : AV} {n : Nat} (f : α → List AV) (hu : P.underlying t = some (.slice e)) (hfl : flatTy P 9 e = true) (hby : 0 < P.bytesOf e) (h : Sh P (n + 1) t [c]) (he : ∀ x, x.length = P.cellsOf e → Sh P n e x → ∃ a, x = f a) :
    ∃ l : List α, c = .sl .no l.length (l.flatMap f) ∧ l.length ≤ 140737488355328 := by
  simp only [Sh, hu] at h
  obtain ⟨ls, h1, h2, h3⟩ := h hfl hby
  simp only [List.cons.injEq, and_true] at h3
  have key : ∀ ls : List (List AV), (∀ x ∈ ls, x.length = P.cellsOf e ∧ Sh P n e x) → ∃ l : List α, l.length = ls.length ∧ ls.flatten = l.flatMap f := by
    intro ls
    induction ls with
    | nil => intro _; exact ⟨[], rfl, rfl⟩
    | cons x ls ih =>
      intro hx
      obtain ⟨l, e1, e2⟩ := ih fun y hy => hx y (by simp [hy])
      obtain ⟨a, rfl⟩ := he x (hx x (by simp)).1 (hx x (by simp)).2
      exact ⟨a :: l, by simp [e1], by simp [e2]⟩
  obtain ⟨l, e1, e2⟩ := key ls h2
  exact ⟨l, by rw [h3, e1, e2], by omega⟩
theorem sh_bytes {t e : TypeId} {c : AV} (hu : P.underlying t = some (.slice e)) (he : P.underlying e = some (.int .u8)) (hfl : flatTy P 9 e = true) (hby : 0 < P.bytesOf e) (h : Sh P 2 t [c]) : ∃ l : List UInt8, c = .sl .no l.length (encB l) ∧ l.length ≤ 140737488355328 := by
  obtain ⟨l, h1, h2⟩ := sh_slice (fun b : UInt8 => [AV.i .u8 (b.toNat : Int)]) hu hfl hby h fun x _ hx => by
    simp only [Sh, he] at hx
    obtain ⟨m, hm, rfl⟩ := hx
    obtain ⟨b, rfl⟩ := u8_of hm
    exact ⟨b, rfl⟩
  refine ⟨l, ?_, h2⟩
  rw [h1]
  congr 1
  unfold encB
  clear h1 h2
  induction l with
  | nil => rfl
  | cons a l ih => simp at ih ⊢; exact ih
end
end Go.Proofs.Ytoofpdmdgofdcaa.E

namespace Go.Proofs.Ytoofpdmdgofdcaa.E
open Go Go.RowKit
set_option linter.unusedVariables false
set_option linter.unusedSimpArgs false

variable {P : Program}

theorem lookK_t (K : AV → Prop) (r : AV × Bool) : lookK K true r = K (.tup [r.1.pl, .b r.2]) := rfl
theorem lookK_f (K : AV → Prop) (r : AV × Bool) : lookK K false r = K r.1.pl := rfl
theorem st_app (σ : AState) (x y : List AObj) : (σ ++ x) ++ y = σ ++ (x ++ y) := List.append_assoc _ _ _

attribute [go_sem] alookup mapAt lookK_t lookK_f amapUpdate updK arange anext aentry entK acap

end Go.Proofs.Ytoofpdmdgofdcaa.E

namespace Go.Proofs.Ytoofpdmdgofdcaa.E
open Go Go.RowKit Go.Sort
set_option linter.unusedVariables false
set_option linter.unusedSimpArgs false

variable {P : Program}

section
variable {G : Nat → AV} {g : Gh} {w w' : World} {σ : AState}

/-- One object is another one now, all others are as they were; new blocks may be there. -/
theorem Sim.put_world {id bk : Nat} {O : AObj} (hs : Sim g σ w) (hid : id < σ.length) (hb : g.ρ[id]? = some bk) (hS : ∀ o, g.S bk o = none) (how : g.ow bk = none) (hne : ∀ k, k < w.heap.size → k ≠ bk → w'.heap[k]? = w.heap[k]?) (hO : ObjOK g w' id O) : Sim g (σ.set id O) w' := by
  refine { imm := fun b of v h => ?_, len := by rw [List.length_set]; exact hs.len, inj := hs.inj, obj := fun j O' ho' => ?_, own := fun b sl h e hh => ?_ }
  · have h1 := hs.imm b of v h
    have hbk : b ≠ bk := fun e => by
      subst e
      rw [hS] at h
      cases h
    simp only [World.cell?] at h1 ⊢
    rw [hne b (hs.S_lt h) hbk]
    exact h1
  · rw [List.getElem?_set] at ho'
    by_cases e : id = j
    · subst e
      simp only [if_true, hid] at ho'
      cases ho'
      exact hO
    · simp only [e, if_false] at ho'
      have h1 := hs.obj j O' ho'
      cases O' with
      | cells cs =>
        obtain ⟨b1, vs, E, fr, m2, m3, m4⟩ := h1
        exact ⟨b1, vs, E, fr, m2, (hne b1 (heap_lt m3) (fun eb => e (hs.inj id j bk hb (eb ▸ m2)))).trans m3, m4⟩
      | map es =>
        obtain ⟨b1, ms, clock, m2, m3, m4⟩ := h1
        exact ⟨b1, ms, clock, m2, (hne b1 (heap_lt m3) (fun eb => e (hs.inj id j bk hb (eb ▸ m2)))).trans m3, m4⟩
      | loop r es =>
        obtain ⟨b1, m2, m3, m4⟩ := h1
        exact ⟨b1, m2, (hne b1 (heap_lt m3) (fun eb => e (hs.inj id j bk hb (eb ▸ m2)))).trans m3, m4⟩
      | it n se ms =>
        obtain ⟨b1, x, m2, m3, m4⟩ := h1
        exact ⟨b1, x, m2, (hne b1 (heap_lt m3) (fun eb => e (hs.inj id j bk hb (eb ▸ m2)))).trans m3, m4⟩
  · obtain ⟨vs, E, fr, k1, k2⟩ := hs.own b sl h e hh
    exact ⟨vs, E, fr, (hne b (heap_lt k1) (fun e1 => by rw [e1, how] at hh; cases hh)).trans k1, k2⟩

theorem Ext.put_world {id bk : Nat} (hb : g.ρ[id]? = some bk) (h1 : w'.os = w.os) (h2 : w'.tape = w.tape) (h3 : w'.output = w.output) (h4 : w.heap.size ≤ w'.heap.size) (hne : ∀ k, k < w.heap.size → k ≠ bk → w'.heap[k]? = w.heap[k]?) : Ext g w g w' where
  os := h1
  tape := h2
  output := h3
  size := h4
  S := fun _ _ _ h => h
  ρ := fun _ _ h => h
  keep := fun b h1 h2 h3 => ⟨hne b h1 (fun e => h2 id (e ▸ hb)), fun _ => rfl⟩
  newρ := fun id _ h => .inr ⟨id, h⟩
  newow := fun _ _ h => .inr (by rw [h]; simp)

/-- The library's sort of strings, over an object of the abstract heap. -/
theorem sort_strings {f : FuncId} {fn : Func} {c : Code} (hf : P.funcs[f]? = some fn) (hb : fn.body = some c) (hng : (fn.name == "runtime.NumGoroutine") = false)
    (H : ∀ (blk off cap : Nat) (ss : List (List UInt8)) (w : World), Sort.Holds encStr w blk off ss.toArray → blk < w.heap.size → ss.length < 4611686018427387904 →
      Calls P f #[.slice (some ⟨blk, off, none⟩) ss.length cap] w fun e w' => e = .returned (.tuple #[]) ∧ ∃ n os, w' = Sort.grow (Sort.putRow encStr (Sort.ahead w n) blk off (ss.mergeSort fun x y => decide (x ≤ y)).toArray) os)
    {id off cap : Nat} {cs : List AV} {ss : List (List UInt8)} (ho : σ[id]? = some (.cells cs)) (hc : ∀ (j : Nat) s, ss[j]? = some s → cs[off + j]? = some (.s s)) :
    ACalls P G f [.sm id off ss.length cap 1] σ (retIs (.tup []) (σ.set id (.cells (setN cs off ((ss.mergeSort fun x y => decide (x ≤ y)).map AV.s))))) := by
  intro g w vs hs hO hG hl hargs
  have h0 : 0 < vs.size := by rw [hl]; simp
  have ha := hargs 0 _ vs[0] rfl (Array.getElem?_eq_getElem h0)
  have hvs : vs = #[vs[0]] := by
    apply Array.ext
    · simpa using hl
    · intro i h1 h2
      simp at h2
      subst h2
      rfl
  obtain ⟨ha1, _⟩ := ha
  generalize vs[0] = v0 at ha1 hvs
  subst hvs
  cases ha1 with
  | sm _ _ _ _ _ bk hbk hn hn48 =>
  obtain ⟨b1, us, E, fr, m2, m3, m4, m5, m6, m7, m8⟩ := hs.obj id _ ho
  rw [hbk] at m2
  cases m2
  have hlt := heap_lt m3
  have hid : id < σ.length := (List.getElem?_eq_some_iff.1 ho).1
  have hcell : ∀ (j : Nat) s, ss[j]? = some s → us[off + j]? = some (encStr s) ∧ s.length ≤ 2 ^ 60 := fun j s hj => by
    have h1 := hc j s hj
    have hlt2 : off + j < us.size := by rw [m4]; exact (List.getElem?_eq_some_iff.1 h1).1
    have h2 := (m8 _ _ _ h1 (Array.getElem?_eq_getElem hlt2)).1
    rw [Array.getElem?_eq_getElem hlt2]
    generalize us[off + j] = v at h2
    cases h2 with
    | s _ hl => exact ⟨rfl, hl⟩
  have hH : Sort.Holds encStr w bk off ss.toArray := by
    intro j hj
    have hj' : j < ss.length := by simpa using hj
    have h1 := hcell j _ (List.getElem?_eq_getElem hj')
    refine ⟨?_, ?_⟩
    · rw [cell_cells m3, h1.1]
      simp [hj']
    · have hus : off + j < us.size := (Array.getElem?_eq_some_iff.1 h1.1).1
      have hfr := m5 (off + j) (Nat.zero_le _) hus
      simp only [World.frozen?, m3, Bool.and_eq_false_iff, decide_eq_false_iff_not]
      omega
  have hoff : ss ≠ [] → off + ss.length ≤ cs.length := fun hne => by
    have hl1 : ss.length - 1 < ss.length := by have := List.length_pos_iff.2 hne; omega
    have := hc _ _ (List.getElem?_eq_getElem hl1)
    have := (List.getElem?_eq_some_iff.1 this).1
    omega
  generalize hms : (ss.mergeSort fun x y => decide (x ≤ y)) = ms
  have hml : ms.length = ss.length := by rw [← hms]; exact List.length_mergeSort _
  have hmm : ∀ s ∈ ms, s ∈ ss := fun s h => by rw [← hms] at h; exact List.mem_mergeSort.1 h
  rw [enter_run hf hb hng]
  refine (H bk off cap ss w hH hlt (by omega)).mono fun e w' he => ?_
  obtain ⟨rfl, n, os, rfl⟩ := he
  rw [hms]
  -- the world behind it
  have hheap : ∀ k, k < w.heap.size → (Sort.grow (Sort.putRow encStr (Sort.ahead w n) bk off ms.toArray) os).heap[k]? = (Sort.putRow encStr (Sort.ahead w n) bk off ms.toArray).heap[k]? := fun k hk => by
    show (_ ++ os)[k]? = _
    rw [Array.getElem?_append_left]
    simpa [Sort.putRow, Sort.mapBlock, Sort.ahead] using hk
  have hput : ∀ k, (Sort.putRow encStr (Sort.ahead w n) bk off ms.toArray).heap[k]? = if bk = k then (w.heap[k]?).map (Sort.onCells (Sort.putCells encStr off ms.toArray)) else w.heap[k]? := fun k => by
    simp only [Sort.putRow, Sort.mapBlock, Sort.ahead, Array.getElem?_modify]
  have hne : ∀ k, k < w.heap.size → k ≠ bk → (Sort.grow (Sort.putRow encStr (Sort.ahead w n) bk off ms.toArray) os).heap[k]? = w.heap[k]? := fun k hk hkb => by
    rw [hheap k hk, hput, if_neg (fun e => hkb e.symm)]
  have hsz : w.heap.size ≤ (Sort.grow (Sort.putRow encStr (Sort.ahead w n) bk off ms.toArray) os).heap.size := by
    simp [Sort.grow, Sort.putRow, Sort.mapBlock, Sort.ahead]
  have hnew : (Sort.grow (Sort.putRow encStr (Sort.ahead w n) bk off ms.toArray) os).heap[bk]? = some (.cells (Sort.putCells encStr off ms.toArray us) E fr) := by
    rw [hheap bk hlt, hput, if_pos rfl, m3]
    rfl
  have hO' : ObjOK g (Sort.grow (Sort.putRow encStr (Sort.ahead w n) bk off ms.toArray) os) id (.cells (setN cs off (ms.map AV.s))) := by
    refine ⟨bk, _, E, fr, hbk, hnew, by rw [setN_length]; simpa [Sort.putCells] using m4, fun o h1 h2 => m5 o h1 (by simpa [Sort.putCells] using h2), m6, m7, fun j c v hcj hvj => ?_⟩
    simp only [Sort.putCells, Array.getElem?_mapIdx, Option.map_eq_some_iff] at hvj
    obtain ⟨u, hu, rfl⟩ := hvj
    by_cases hss : ss = []
    · subst hss
      have : ms = [] := List.length_eq_zero_iff.1 hml
      subst this
      simp only [List.map_nil, setN] at hcj
      rw [if_neg (by simp)]
      exact m8 j c u hcj hu
    · have h1 := hoff hss
      rw [setN_get _ _ _ _ (by simp [hml]; exact h1)] at hcj
      simp only [List.length_map] at hcj
      by_cases hr : off ≤ j ∧ j < off + ms.length
      · rw [if_pos hr, List.getElem?_map, Option.map_eq_some_iff] at hcj
        obtain ⟨s, hs1, rfl⟩ := hcj
        rw [if_pos (by simpa using hr)]
        have hlt3 := (List.getElem?_eq_some_iff.1 hs1)
        obtain ⟨hlt4, hs2⟩ := hlt3
        have : (ms.toArray)[j - off]! = s := by
          rw [getElem!_pos _ _ (by simpa using hlt4)]
          simpa using hs2
        rw [this]
        obtain ⟨i, hi⟩ := List.mem_iff_getElem?.1 (hmm s (List.mem_of_getElem? hs1))
        exact ⟨.s s (hcell i s hi).2, by simp [OwnOK]⟩
      · rw [if_neg hr] at hcj
        rw [if_neg (by simpa using hr)]
        exact m8 j c u hcj hu
  exact ⟨.tup [], _, g, ⟨rfl, rfl⟩, Ext.put_world hbk rfl rfl rfl hsz hne, hs.put_world hid hbk m6 m7 hne hO', .tup [] #[] rfl (fun j c v h => by simp at h), ⟨trivial, fun cs vs e1 e2 k c' v' h1 h2 => by cases e1; simp at h1⟩, fun b s h e => .inl (hO b s h e)⟩

/-- The same, where there is nothing to sort. -/
theorem sort_strings_nil {f : FuncId} {fn : Func} {c : Code} (hf : P.funcs[f]? = some fn) (hb : fn.body = some c) (hng : (fn.name == "runtime.NumGoroutine") = false)
    (H : ∀ (p : Option Addr) (cap : Nat) (w : World), Calls P f #[.slice p 0 cap] w fun e w' => e = .returned (.tuple #[]) ∧ w' = w) {o : Ow} :
    ACalls P G f [.sl o 0 []] σ (retIs (.tup []) σ) := by
  intro g w vs hs hO hG hl hargs
  have h0 : 0 < vs.size := by rw [hl]; simp
  have ha := hargs 0 _ vs[0] rfl (Array.getElem?_eq_getElem h0)
  have hvs : vs = #[vs[0]] := by
    apply Array.ext
    · simpa using hl
    · intro i h1 h2
      simp at h2
      subst h2
      rfl
  obtain ⟨ha1, _⟩ := ha
  generalize vs[0] = v0 at ha1 hvs
  subst hvs
  have hv0 : ∃ p cap, v0 = .slice p 0 cap := by
    cases ha1 with
    | sl0 => exact ⟨_, _, rfl⟩
    | sl => exact ⟨_, _, rfl⟩
  obtain ⟨p, cap, rfl⟩ := hv0
  rw [enter_run hf hb hng]
  refine (H p cap w).mono fun e w' he => ?_
  obtain ⟨rfl, rfl⟩ := he
  exact ⟨.tup [], _, g, ⟨rfl, rfl⟩, Ext.refl g w', hs, .tup [] #[] rfl (fun j c v h => by simp at h), ⟨trivial, fun cs vs e1 e2 k c' v' h1 h2 => by cases e1; simp at h1⟩, fun b s h e => .inl (hO b s h e)⟩

end
end Go.Proofs.Ytoofpdmdgofdcaa.E

namespace Go.Proofs.Ytoofpdmdgofdcaa.E
open Go Go.RowKit
set_option linter.unusedVariables false
set_option linter.unusedSimpArgs false

variable {P : Program}

/-- At a round's end: the objects that were there ahead of the loop; the record; the iterator's own; what the rounds made. -/
def RoundEndK (p : AState) (r : Loop) (le : List AV) (ls : AState) (s : AState) (Y : AState → AState → Prop) : Prop :=
  ∃ p' nw', s = p' ++ (.loop { r with state := .busy } le :: (ls ++ nw')) ∧ p'.length = p.length ∧ Y p' nw'

def roundKQ (p : AState) (r : Loop) (le : List AV) (ls : AState) (Y : AState → AState → Prop) (Z : Code → AState → AState → Prop) : AX → AEnv → AState → Prop
  | .normal, _, s => RoundEndK p r le ls s Y
  | .ret, _, s => RoundEndK p r le ls s (Z .ret)
  | .exit id, _, s => RoundEndK p r le ls s (Z (.exit id))
  | .goto l, _, s => RoundEndK p r le ls s (Z (.goto l))
  | .panic _, _, _ => False

def roundKR (p : AState) (r : Loop) (le : List AV) (ls : AState) (Y : AState → AState → Prop) (Z : Code → AState → AState → Prop) : ARes → AState → Prop := fun x s =>
  (∃ p' nw', x = .ret (.b true) ∧ s = p' ++ (.loop r le :: (ls ++ nw')) ∧ p'.length = p.length ∧ Y p' nw') ∨
  (∃ p' nw' c, x = .ret (.b false) ∧ s = p' ++ (.loop { r with state := .done, pending := some c } le :: (ls ++ nw')) ∧ p'.length = p.length ∧ Z c p' nw')

/-- What an iterator does that has k objects of its own: 'ok dn x': x may come after dn; 'full dn': dn may be all; 'I': what holds of the state meanwhile. -/
def IterK (P : Program) (G : Nat → AV) (f : FuncId) (cap : List AV) (k : Nat) (I : AState → Prop) (ok : List (List AV) → List AV → Prop) (full : List (List AV) → Prop) : Prop :=
  ∀ (id : Nat) (T F : List (List AV) → AState → AState → Prop) (σ : AState),
    (∀ dn p nw, T dn p nw → p.length = σ.length) → (∀ dn p nw, F dn p nw → p.length = σ.length) → (∀ dn p nw, T dn p nw → I p) →
    (∀ dn x p ls nw, ls.length = k → ok dn x → T dn p nw → YCalls P G id x (p ++ (ls ++ nw)) fun y t => ∃ p' nw', t = p' ++ (ls ++ nw') ∧ ((y = .ret (.b true) ∧ T (dn ++ [x]) p' nw') ∨ (y = .ret (.b false) ∧ F (dn ++ [x]) p' nw'))) →
    T [] σ [] → ACalls P G f (.yl id :: cap) σ fun y t => ∃ c p' ls nw, ls.length = k ∧ y = .ret c ∧ t = p' ++ (ls ++ nw) ∧ ((∃ dn, full dn ∧ T dn p' nw) ∨ ∃ dn, F dn p' nw)

section
variable {G : Nat → AV} {g g0 g1 : Gh} {w w0 w1 : World} {σ s p ls : AState} {r : Loop} {le : List AV}

theorem round_endK {a : Act} {env : AEnv} {bk : Nat} {r' : Loop} {Y : AState → AState → Prop} {x : Bool} {Qr : ARes → AState → Prop} (hb : g.ρ[p.length]? = some bk) (ht : r'.tmps = r.tmps) (he : RoundEndK p r le ls s Y) (hi : Inv2 g w [] env s a w1)
    (hq : ∀ p' nw', p'.length = p.length → Y p' nw' → Qr (.ret (.b x)) (p' ++ (.loop r' le :: (ls ++ nw')))) :
    w1.heap[bk]? = some (.loop { r with state := .busy }) ∧ PostA g w Qr (.returned (.bool x)) (w1.putObj bk (.loop r')) := by
  obtain ⟨p', nw', rfl, hl, hy⟩ := he
  obtain ⟨g1, ms, hd, hm, hx1, hs1, he1⟩ := hi
  have hb1 := hx1.ρ _ _ hb
  have hget : (p' ++ (AObj.loop { r with state := .busy } le :: (ls ++ nw')))[p.length]? = some (.loop { r with state := .busy } le) := by
    rw [← hl, st_get0]
    rfl
  obtain ⟨k1, k2⟩ := hs1.setLoop (r' := r') hget hb1 ht
  have hset : (p' ++ (AObj.loop { r with state := .busy } le :: (ls ++ nw'))).set p.length (.loop r' le) = p' ++ (.loop r' le :: (ls ++ nw')) := by
    rw [← hl, st_set0]
    rfl
  rw [hset] at k2
  refine ⟨k1, ?_⟩
  have hx2 : Ext g w { g1 with ow := onlyO g1.ow } (w1.putObj bk (.loop r')) := (hx1.trans (Ext.setLoop hb1 _)).trans Ext.onlyO
  exact ⟨.b x, _, _, hq p' nw' hl hy, hx2, k2.onlyO, .b x, topOwn_of trivial (fun cs e => by cases e), fun bk sl h e => .inl (by
    obtain ⟨id, j, e2⟩ := (onlyO_some (y := (sl, h)) e).2
    exact ⟨id, j, e2⟩)⟩

/-- A call of yield, told by the body. -/
theorem round_callsK {nw : AState} {x : List AV} {Y : AState → AState → Prop} {Z : Code → AState → AState → Prop} (hGp : GPl G) (hst : r.state = .ready) (hpd : r.pending = none) (hps : r.params.size = x.length) (hle : ∀ (j : Nat) c, le[j]? = some c → Pl c) (hxp : ∀ (j : Nat) c, x[j]? = some c → Pl c)
    (h : AWp P anyR G r.assign (thenQ (fun env1 s1 => s1[p.length]? = some (.loop r le) ∧ AWp P anyR G r.body (roundKQ p r le ls Y Z) env1 (s1.set p.length (.loop { r with state := .busy } le))) (fun _ _ _ => False)) (aputs le (r.params.toList.zip x)) (p ++ (.loop r le :: (ls ++ nw)))) :
    YCalls P G p.length x (p ++ (.loop r le :: (ls ++ nw))) (roundKR p r le ls Y Z) := by
  intro g w vs bk hs ho hG hl hR hb
  obtain ⟨b1, m2, m3, m4, m6, m7, m8⟩ := hs.obj p.length (.loop r le) (by rw [st_get0]; rfl)
  rw [hb] at m2
  cases m2
  rw [run_yield m3 (by rw [hl, hps])]
  show ∀ (rr : Option Nat) (n : Nat), RoundIn (FW rr) n P bk r.fn _ r.assign r.body w _
  intro rr n
  refine roundIn_of_wpIn trivial ?_
  have henv : EnvOK g (aputs le (r.params.toList.zip x)) ((r.params.zip vs).foldl (fun tmps (t, a) => tmps.setIfInBounds t a) r.tmps) := by
    have h1 : EnvOK g le r.tmps := ⟨m4, fun i c v hc hv => ⟨m8 i c v hc hv, hle i c hc g i v⟩⟩
    have h2 := aputs_ok (tmps := r.tmps) r.params.toList x vs.toList h1 (by simp [hl]) fun j c v hc hv => ⟨(hR j c v hc (by simpa using hv)).1, hxp j c hc⟩
    have h3 : (r.params.zip vs).foldl (fun tmps (t, a) => tmps.setIfInBounds t a) r.tmps = (r.params.toList.zip vs.toList).foldl (fun tmps (t, a) => tmps.setIfInBounds t a) r.tmps := by
      rw [← Array.foldl_toList, Array.toList_zip]
    rw [h3]
    exact h2
  have hA := h g w [] (some bk) n { tmps := (r.params.zip vs).foldl (fun tmps (t, a) => tmps.setIfInBounds t a) r.tmps, defers := [] } w trivial hGp hG ⟨rfl, g, Ext.refl g w, hs, henv⟩
  refine wpIn_mono hA fun e a1 w1 q => ?_
  cases e with
  | normal =>
    obtain ⟨env1, s1, ⟨k1, k2⟩, g1, ms, hd, hm, hx1, hs1, he1⟩ := q
    have hb1 := hx1.ρ _ _ hb
    obtain ⟨n1, n2⟩ := hs1.setLoop (r' := { r with state := .busy }) k1 hb1 rfl
    refine ⟨_, run_beginRound n1 hst, ?_⟩
    have hB := k2.two (r := some bk) (n := n) (D := []) trivial hGp hG ⟨g1, ms, hd, hm.later (Ext.setLoop hb1 _), hx1.trans (Ext.setLoop hb1 _), n2, he1⟩
    refine wpIn_mono hB fun e2 a2 w3 q2 => ?_
    have jump : ∀ (c : Code) env s, RoundEndK p r le ls s (Z c) → Inv2 g w [] env s a2 w3 → ∃ v w', (Instr.endRound bk (some c)).run P w3 = .ok v w' ∧ PostA g w (roundKR p r le ls Y Z) (.returned v) w' := fun c env s h1 h2 => by
      obtain ⟨q1, q2⟩ := round_endK (r := r) (r' := { r with state := .done, pending := some c }) (x := false) (Qr := roundKR p r le ls Y Z) hb rfl h1 h2 (fun p' nw' h3 h4 => .inr ⟨p', nw', c, rfl, rfl, h3, h4⟩)
      exact ⟨_, _, run_endRound (some c) q1, q2⟩
    cases e2 with
    | normal =>
      obtain ⟨env, s, h1, h2⟩ := q2
      obtain ⟨q1, q2⟩ := round_endK (r := r) (r' := r) (x := true) (Qr := roundKR p r le ls Y Z) hb rfl h1 h2 (fun p' nw' h3 h4 => .inl ⟨p', nw', rfl, rfl, h3, h4⟩)
      have hr : ({ { r with state := LoopState.busy } with state := if (none : Option Code).isNone then LoopState.ready else LoopState.done, pending := none } : Loop) = r := by
        cases r
        simp_all
      have := run_endRound (P := P) none q1
      rw [hr] at this
      exact ⟨_, _, this, q2⟩
    | ret => obtain ⟨env, s, h1, h2⟩ := q2; exact jump _ env s h1 h2
    | exit id => obtain ⟨env, s, h1, h2⟩ := q2; exact jump _ env s h1 h2
    | goto l => obtain ⟨env, s, h1, h2⟩ := q2; exact jump _ env s h1 h2
    | panic ch => obtain ⟨x, v, env, s, g, ms, _, h1, _⟩ := q2; exact h1.elim
    | outgrown => exact q2.elim
  | ret => obtain ⟨env, s, h1, h2⟩ := q; exact h1.elim
  | exit id => obtain ⟨env, s, h1, h2⟩ := q; exact h1.elim
  | goto l => obtain ⟨env, s, h1, h2⟩ := q; exact h1.elim
  | panic ch => obtain ⟨x, v, env, s, g, ms, _, h1, _⟩ := q; exact h1.elim
  | outgrown => exact q.elim


theorem AWp.rangeFuncK {Q : AX → AEnv → AState → Prop} {env : AEnv} {gop : Operand} {ps : Array Tmp} {assign body c : Code} {f : FuncId} {cap : List AV} {fn : Func} {k : Nat} {I : AState → Prop} {ok : List (List AV) → List AV → Prop} {full : List (List AV) → Prop} (Y : List (List AV) → AState → AState → Prop) (Z : Code → AState → AState → Prop)
    (hf : P.funcs[f]? = some fn) (hb : fn.body = some c) (hng : (fn.name == "runtime.NumGoroutine") = false) (hev : ev G env gop = .fn f cap) (hit : IterK P G f (cap.map AV.pl) k I ok full)
    (hI : ∀ dn p nw o, p.length = σ.length → Y dn p nw → I (p ++ [o]))
    (hxs : ∀ dn x, ok dn x → x.length = ps.size ∧ ∀ (j : Nat) c, x[j]? = some c → Pl c) (h0 : Y [] σ [])
    (hbody : ∀ dn x p ls nw (r : Loop), ls.length = k → ok dn x → p.length = σ.length → Y dn p nw →
      AWp P anyR G assign (thenQ (fun env1 s1 => s1[p.length]? = some (.loop r (env.map AV.pl)) ∧ AWp P anyR G body (roundKQ p r (env.map AV.pl) ls (Y (dn ++ [x])) Z) env1 (s1.set p.length (.loop { r with state := .busy } (env.map AV.pl)))) (fun _ _ _ => False))
        (aputs (env.map AV.pl) (ps.toList.zip x)) (p ++ (.loop r (env.map AV.pl) :: (ls ++ nw))))
    (hdone : ∀ dn p o ls nw, full dn → p.length = σ.length → ls.length = k → Y dn p nw → Q .normal env (p ++ (o :: (ls ++ nw)))) (hjump : ∀ c p o ls nw, p.length = σ.length → ls.length = k → Z c p nw → AWp P plainR G c Q env (p ++ (o :: (ls ++ nw)))) : AWp P plainR G (.rangeFunc gop ps assign body) Q env σ := by
  intro g0 w0 D rr n a w hr hGp hG hi
  have hr : rr = none := hr
  subst hr
  obtain ⟨hd, g, hx, hs, he⟩ := hi
  have hve := R.ev (hG.ext hx) he gop
  rw [hev] at hve
  generalize hgv : a.eval gop = gv at hve
  cases hve with
  | fn _ _ vs hvl hvR =>
  refine wpIn_rangeFunc fun fnid _ => ?_
  let b := w.heap.size
  let rec0 : Loop := { state := .ready, pending := none, fn := fnid, tmps := a.tmps, params := ps, assign, body, defers := w.heap.size }
  let gO : Gh := { g with ow := onlyO g.ow }
  have hsO : Sim gO σ w := hs.onlyO
  have hsA : Sim gO σ (w.alloc (.deferred (some []))) := hsO.world fun bk hb => heap_alloc_lt hb
  have hxA : Ext gO w gO (w.alloc (.deferred (some []))) := (Ext.refl gO w).world (σ := σ) (fun bk hb => heap_alloc_lt hb) rfl rfl rfl (by simp)
  have hle : (a.tmps).size = (env.map AV.pl).length := by rw [List.length_map]; exact he.1
  have hleR : ∀ (j : Nat) (c : AV) (v : Value), (env.map AV.pl)[j]? = some c → a.tmps[j]? = some v → R g.S g.ρ c v := fun j c v hc hv => by
    rw [List.getElem?_map, Option.map_eq_some_iff] at hc
    obtain ⟨c0, hc0, rfl⟩ := hc
    exact (he.2 j c0 v hc0 hv).1.pl
  have hxL := Ext.alloc_obj hsA (.loop rec0)
  have hsL := hsA.alloc_loop rec0 (env.map AV.pl) hle (fun j c v hc hv => (hleR j c v hc hv).ext hxL)
  have hw2 : ((w.alloc (.deferred (some []))).alloc (.loop rec0)).heap[w.heap.size]? = some (.deferred (some [])) := (heap_alloc_lt (by simp)).trans (heap_alloc_new w _)
  have hsz : (w.alloc (.deferred (some []))).heap.size = w.heap.size + 1 := by simp
  have hlpl : ∀ (j : Nat) c, (env.map AV.pl)[j]? = some c → Pl c := fun j c hc => by
    rw [List.getElem?_map, Option.map_eq_some_iff] at hc
    obtain ⟨c0, hc0, rfl⟩ := hc
    exact Pl.pl c0
  -- the rounds
  let T : List (List AV) → AState → AState → Prop := fun dn s nw => ∃ p', s = p' ++ [.loop rec0 (env.map AV.pl)] ∧ p'.length = σ.length ∧ Y dn p' nw
  let F : List (List AV) → AState → AState → Prop := fun dn s nw => ∃ p' c, s = p' ++ [.loop { rec0 with state := .done, pending := some c } (env.map AV.pl)] ∧ p'.length = σ.length ∧ Z c p' nw
  have hcall := hit σ.length T F (σ ++ [.loop rec0 (env.map AV.pl)]) (fun dn s nw ⟨p', h1, h2, _⟩ => by rw [h1]; simp [h2]) (fun dn s nw ⟨p', c, h1, h2, _⟩ => by rw [h1]; simp [h2]) (fun dn s nw ⟨p', h1, h2, h4⟩ => by rw [h1]; exact hI dn p' nw _ h2 h4) (fun dn x s ls nw hk hx1 ⟨p', h1, h2, h4⟩ => by
      subst h1
      have hrc := round_callsK (r := rec0) (le := env.map AV.pl) (p := p') (ls := ls) (nw := nw) (x := x) (Y := Y (dn ++ [x])) (Z := Z) hGp rfl rfl ((hxs dn x hx1).1.symm) hlpl (hxs dn x hx1).2 (hbody dn x p' ls nw rec0 hk hx1 h2 h4)
      rw [h2] at hrc
      have e1 : (p' ++ [AObj.loop rec0 (env.map AV.pl)]) ++ (ls ++ nw) = p' ++ (.loop rec0 (env.map AV.pl) :: (ls ++ nw)) := by simp
      rw [e1]
      intro g' w' vs' bk' q1 q2 q3 q4 q5 q6
      refine next1_mono ?_ (hrc g' w' vs' bk' q1 q2 q3 q4 q5 q6)
      intro e w'' hp
      cases e with
      | returned v =>
        obtain ⟨y, σ', g'', hy, hrest⟩ := hp
        refine ⟨y, σ', g'', ?_, hrest⟩
        rcases hy with ⟨p2, nw2, k1, k2, k3, k5⟩ | ⟨p2, nw2, c2, k1, k2, k3, k5⟩
        · exact ⟨p2 ++ [.loop rec0 (env.map AV.pl)], nw2, by rw [k2]; simp, .inl ⟨k1, p2, rfl, by rw [k3, h2], k5⟩⟩
        · exact ⟨p2 ++ [.loop { rec0 with state := .done, pending := some c2 } (env.map AV.pl)], nw2, by rw [k2]; simp, .inr ⟨k1, p2, c2, rfl, by rw [k3, h2], k5⟩⟩
      | panicked ch =>
        obtain ⟨y, v, σ', g'', _, hy, _⟩ := hp
        rcases hy with ⟨p2, nw2, k1, _⟩ | ⟨p2, nw2, c2, k1, _⟩ <;> cases k1
      | outgrown => exact hp.elim) ⟨σ, rfl, rfl, h0⟩
  have hgl : (gO.ρ ++ [(w.alloc (.deferred (some []))).heap.size])[σ.length]? = some (w.heap.size + 1) := by
    rw [hsz, ← hs.len]
    simp [gO]
  have hcap : ∀ (j : Nat) (c : AV) (v : Value), (AV.yl σ.length :: cap.map AV.pl)[j]? = some c → (#[Value.func (.yield (w.heap.size + 1)) #[] #[]] ++ vs)[j]? = some v → R g.S (gO.ρ ++ [(w.alloc (.deferred (some []))).heap.size]) c v ∧ Pl c := fun j c v hc hv => by
    cases j with
    | zero =>
      rw [Array.getElem?_append_left (by simp)] at hv
      simp at hc hv
      subst hc
      subst hv
      exact ⟨.yl _ _ hgl, pl_mk (by simp) (by simp)⟩
    | succ j =>
      rw [List.getElem?_cons_succ, List.getElem?_map, Option.map_eq_some_iff] at hc
      obtain ⟨c0, hc0, rfl⟩ := hc
      have hv : vs[j]? = some v := by
        rw [Array.getElem?_append_right (by simp)] at hv
        simpa using hv
      exact ⟨((hvR j c0 v hc0 hv).pl).ext hxL, Pl.pl c0⟩
  have hN := hcall { gO with ρ := gO.ρ ++ [(w.alloc (.deferred (some []))).heap.size] } ((w.alloc (.deferred (some []))).alloc (.loop rec0)) (#[.func (.yield (w.heap.size + 1)) #[] #[]] ++ vs) hsL (OnlyO.of g) (((hG.ext hx).ext (Ext.onlyO (w := w))).ext (hxA.trans hxL)) (by simp [hvl]; omega)
    (fun j c v hc hv => ⟨(hcap j c v hc hv).1, (hcap j c v hc hv).2 _ j v⟩)
  rw [enter_run hf hb hng] at hN
  have hN : Calls P f (#[.func (.yield (w.heap.size + 1)) #[] #[]] ++ vs) ((w.alloc (.deferred (some []))).alloc (.loop rec0)) _ := hN
  refine ⟨w.heap.size + 1, [{ target := .collected w.heap.size, args := #[] }], (w.alloc (.deferred (some []))).alloc (.loop rec0), { target := .fn (.func f) vs, args := #[.func (.yield (w.heap.size + 1)) #[] #[]] }, (w.alloc (.deferred (some []))).alloc (.loop rec0), f, #[.func (.yield (w.heap.size + 1)) #[] #[]] ++ vs, (w.alloc (.deferred (some []))).alloc (.loop rec0), ?_, ?_, fun _ _ => trivial, ?_, (fun h => by cases h), ?_⟩
  · exact run_enterLoop_outer fnid a.tmps ps assign body
  · have hve2 : a.eval (.const (.func (.yield (w.heap.size + 1)) #[] #[])) = .func (.yield (w.heap.size + 1)) #[] #[] := rfl
    simp [resolve, rangeCall, hgv, Deferred.ofValue, hve2]
  · simp only [invoke]
    exact enter_run hf hb hng
  · refine (callsIn_FW hN).mono fun e w3 hp => ?_
    cases e with
    | panicked ch =>
      obtain ⟨y, v, σ', g', _, ⟨c, s', ls, nw, _, hy, _⟩, _⟩ := hp
      cases hy
    | outgrown => exact hp.elim
    | returned v =>
      obtain ⟨y, σ', g', ⟨c, s', ls, nw, hlk, hy, ht, hTF⟩, hx3, hs3, _, _, hO3⟩ := hp
      subst ht
      have hgl3 : g'.ρ[σ.length]? = some (w.heap.size + 1) := hx3.ρ _ _ hgl
      have fin : ∀ (p' : AState) (rc : Loop), s' = p' ++ [.loop rc (env.map AV.pl)] → p'.length = σ.length → w3.heap[w.heap.size + 1]? = some (.loop rc) ∧ Inv2 g0 w0 D env (p' ++ (.loop { rc with state := .exhausted } (env.map AV.pl) :: (ls ++ nw))) { a with defers := [{ target := .collected w.heap.size, args := #[] }] ++ a.defers } (w3.putObj (w.heap.size + 1) (.loop { rc with state := .exhausted })) := fun p' rc hs' hl' => by
        subst hs'
        have e2 : (p' ++ [AObj.loop rc (env.map AV.pl)]) ++ (ls ++ nw) = p' ++ (.loop rc (env.map AV.pl) :: (ls ++ nw)) := by simp
        rw [e2] at hs3
        obtain ⟨k1, k2⟩ := hs3.setLoop (id := σ.length) (r := rc) (r' := { rc with state := .exhausted }) (le := env.map AV.pl) (by rw [← hl', st_get0]; rfl) hgl3 rfl
        refine ⟨k1, ?_⟩
        have hx4 : Ext gO w g' (w3.putObj (w.heap.size + 1) (.loop { rc with state := .exhausted })) := ((hxA.trans hxL).trans hx3).trans (Ext.setLoop hgl3 _)
        have hset : (p' ++ (AObj.loop rc (env.map AV.pl) :: (ls ++ nw))).set σ.length (.loop { rc with state := .exhausted } (env.map AV.pl)) = p' ++ (.loop { rc with state := .exhausted } (env.map AV.pl) :: (ls ++ nw)) := by
          rw [← hl', st_set0]
          rfl
        rw [hset] at k2
        obtain ⟨z1, z2, z3, _⟩ := back (d := 0) (r := .u) (v := undef) hx hs he hx4 k2 ⟨trivial, fun cs vs e => by cases e⟩ hO3
        have hmark : (w3.putObj (w.heap.size + 1) (.loop { rc with state := .exhausted })).heap[w.heap.size]? = some (.deferred (some [])) := by
          rw [World.putObj_heap_other (by omega)]
          refine ((hx3.keep w.heap.size (by simp; omega) (fun id e => ?_) ?_).1).trans hw2
          · rcases ρ_app_cases e with h1 | ⟨_, h1⟩
            · have := hs.ρ_lt h1; omega
            · omega
          · show onlyO g.ow w.heap.size = none
            cases e : g.ow w.heap.size with
            | none => simp [onlyO, e]
            | some x => have := hs.ow_lt e; omega
        refine ⟨_, [{ target := .collected w.heap.size, args := #[] }], by rw [hd], ⟨fun m hm => ?_, List.pairwise_singleton _ _⟩, z1, z2, z3⟩
        simp at hm
        subst hm
        refine ⟨w.heap.size, rfl, hx.size, hmark, fun id e => ?_, ?_⟩
        · rcases hx3.newρ id _ (show g'.ρ[id]? = some w.heap.size from e) with h6 | ⟨i0, h6⟩
          · simp at h6
            omega
          · rcases ρ_app_cases h6 with h7 | ⟨_, h7⟩
            · have := hs.ρ_lt h7; omega
            · rw [hsz] at h7
              omega
        · show backOw g.ow g'.ow 0 w.heap.size = none
          have h1 : g.ow w.heap.size = none := by
            cases e : g.ow w.heap.size with
            | none => rfl
            | some x => have := hs.ow_lt e; omega
          have h2 : g'.ow w.heap.size = none := by
            cases e : g'.ow w.heap.size with
            | none => rfl
            | some x =>
              rcases hx3.newow _ x e with h6 | h6
              · simp at h6; omega
              · exact absurd (show onlyO g.ow w.heap.size = none by simp [onlyO, h1]) h6
          simp [backOw, h1, h2]
      rcases hTF with ⟨dn, hfl, p', h1, h2, h4⟩ | ⟨dn, p', c', h1, h2, h4⟩
      · obtain ⟨k1, k2⟩ := fin p' rec0 h1 h2
        exact ⟨none, _, run_endLoop k1 (by simp [rec0]), env, _, hdone dn p' _ ls nw hfl h2 hlk h4, k2⟩
      · obtain ⟨k1, k2⟩ := fin p' _ h1 h2
        exact ⟨some c', _, run_endLoop k1 (by simp), (hjump c' p' _ ls nw h2 hlk h4).two rfl hGp hG k2⟩

end
end Go.Proofs.Ytoofpdmdgofdcaa.E

namespace Go.Proofs.Ytoofpdmdgofdcaa.E
open Go Go.RowKit
set_option linter.unusedVariables false
set_option linter.unusedSimpArgs false

variable {P : Program}

/-- The room of a value is set aside, and given to whom one will later. -/
structure Aside (g : Gh) (w : World) (s0 : Slot) (c : AV) (x : Value) (g1 : Gh) : Prop where
  S : g1.S = g.S
  ρ : g1.ρ = g.ρ
  ext : Ext g w g1 w
  less : ∀ b, g1.ow b = none ∨ g1.ow b = g.ow b
  own : ∀ s d v, s ≠ s0 → OwnOK g s d v → OwnOK g1 s d v
  back : ∀ g' w' σ', Ext g1 w g' w' → Sim g' σ' w' → ∀ s1, ∃ g'', Ext g w g'' w' ∧ Sim g'' σ' w' ∧ g''.S = g'.S ∧ g''.ρ = g'.ρ ∧ OwnOK g'' s1 c x ∧ (∀ s d v, OwnOK g' s d v → OwnOK g'' s d v) ∧ ∀ b, g'.ow b = none → (∀ ob, w'.heap[b]? = some (.deferred ob) → g''.ow b = none)

theorem aside {g : Gh} {σ : AState} {w : World} (hs : Sim g σ w) {s0 : Slot} {z n : Nat} {cs : List AV} {x : Value} (ho : OwnOK g s0 (.sl (.yes z) n cs) x) : ∃ g1, Aside g w s0 (.sl (.yes z) n cs) x g1 := by
  have triv : (∀ (g' : Gh) (s1 : Slot), OwnOK g' s1 (.sl (.yes z) n cs) x) → ∃ g1, Aside g w s0 (.sl (.yes z) n cs) x g1 := fun h =>
    ⟨g, rfl, rfl, .refl g w, fun b => .inr rfl, fun s d v _ o => o, fun g' w' σ' he hs' s1 => ⟨g', he, hs', rfl, rfl, h g' s1, fun s d v o => o, fun b hb _ _ => hb⟩⟩
  cases x with
  | slice a len cap =>
    cases a with
    | none => exact triv fun g' s1 => trivial
    | some a =>
      rcases ho with hc | how
      · exact triv fun g' s1 => .inl hc
      · -- the block
        refine ⟨{ g with ow := fun b => if b = a.block then none else g.ow b }, rfl, rfl, ?_, fun b => ?_, fun s d v hne o => ?_, fun g' w' σ' he hs' s1 => ?_⟩
        · exact ⟨rfl, rfl, rfl, Nat.le_refl _, fun _ _ _ h => h, fun _ _ h => h, fun _ _ _ _ => ⟨rfl, fun _ => rfl⟩, fun id _ h => .inr ⟨id, h⟩, fun b y h => .inr (fun e => by
            simp only at h
            split at h
            · cases h
            · rw [e] at h; cases h)⟩
        · simp only
          split
          · exact .inl rfl
          · exact .inr rfl
        · refine o.mono (fun b hh hb => ?_)
          simp only
          split
          · rename_i e
            subst e
            rw [how] at hb
            cases hb
            exact absurd rfl hne
          · exact hb
        · obtain ⟨vs, E, fr, h1, h2, h3, h4⟩ := hs.own _ _ _ _ how
          have hlt : a.block < w.heap.size := heap_lt h1
          have hnρ : ∀ id : Nat, g.ρ[id]? ≠ some a.block := fun id e => by
            have hid : id < σ.length := by rw [← hs.len]; exact (List.getElem?_eq_some_iff.1 e).1
            have hob := hs.obj id _ (List.getElem?_eq_getElem hid)
            have hno : g.ow a.block = none := by
              generalize σ[id] = o at hob
              cases o with
              | cells cs => obtain ⟨bk, us, E', fr', k2, k3, k4, k5, k6, k7, k8⟩ := hob; rw [e] at k2; cases k2; exact k7
              | map es => obtain ⟨bk, ms, clock, k2, k3, k4, k6, k7, k8⟩ := hob; rw [e] at k2; cases k2; exact k7
              | loop r es => obtain ⟨bk, k2, k3, k4, k6, k7, k8⟩ := hob; rw [e] at k2; cases k2; exact k7
              | it itn its es => obtain ⟨bk, itx, k2, k3, k4, k6, k7, k8⟩ := hob; rw [e] at k2; cases k2; exact k7
            rw [how] at hno
            cases hno
          have hk := he.keep a.block hlt hnρ (by simp)
          have hnow : g'.ow a.block = none := by
            cases e : g'.ow a.block with
            | none => rfl
            | some y =>
              rcases he.newow _ y e with h | h
              · omega
              · simp at h
          have hnρ' : ∀ id : Nat, g'.ρ[id]? ≠ some a.block := fun id e => by
            rcases he.newρ id _ e with h | ⟨i0, h⟩
            · omega
            · exact hnρ i0 h
          refine ⟨{ g' with ow := fun b => if b = a.block then some (s1, a.off + cs.length, a.off + cap * z) else g'.ow b }, ⟨he.os, he.tape, he.output, he.size, he.S, he.ρ, fun b hb hr hn => ?_, he.newρ, fun b y hy => ?_⟩, ⟨hs'.imm, hs'.len, hs'.inj, fun id o hoo => ?_, fun b s hh ee hb => ?_⟩, rfl, rfl, .inr (by simp), fun s d v o => o.mono fun b hh hb => ?_, fun b hb ob hd => ?_⟩
          · refine he.keep b hb hr ?_
            simp only
            split
            · rfl
            · exact hn
          · simp only at hy
            split at hy
            · rename_i e
              subst e
              exact .inr (by rw [how]; simp)
            · rcases he.newow b y hy with h | h
              · exact .inl h
              · refine .inr fun e => h ?_
                simp only
                split
                · rfl
                · exact e
          · have k := hs'.obj id o hoo
            have hn : ∀ bk, g'.ρ[id]? = some bk → g'.ow bk = none → (if bk = a.block then some (s1, a.off + cs.length, a.off + cap * z) else g'.ow bk) = none := fun bk hbk e => by
              split
              · rename_i e2; subst e2; exact absurd hbk (hnρ' id)
              · exact e
            cases o with
            | cells ds =>
              obtain ⟨bk, us, E', fr', k2, k3, k4, k5, k6, k7, k8⟩ := k
              exact ⟨bk, us, E', fr', k2, k3, k4, k5, k6, hn bk k2 k7, fun j c v hc hv => ⟨(k8 j c v hc hv).1, (k8 j c v hc hv).2.mono fun b h e => by
                simp only
                split
                · rename_i e2; subst e2; rw [hnow] at e; cases e
                · exact e⟩⟩
            | map es =>
              obtain ⟨bk, ms, clock, k2, k3, k4, k6, k7, k8⟩ := k
              exact ⟨bk, ms, clock, k2, k3, k4, k6, hn bk k2 k7, k8⟩
            | loop r es =>
              obtain ⟨bk, k2, k3, k4, k6, k7, k8⟩ := k
              exact ⟨bk, k2, k3, k4, k6, hn bk k2 k7, k8⟩
            | it itn its es =>
              obtain ⟨bk, itx, k2, k3, k4, k6, k7, k8⟩ := k
              exact ⟨bk, itx, k2, k3, k4, k6, hn bk k2 k7, k8⟩
          · simp only at hb
            split at hb
            · rename_i e
              subst e
              cases hb
              exact ⟨vs, E, fr, by rw [hk.1]; exact h1, h2, h3, fun o ho => by rw [hk.2]; exact h4 o ho⟩
            · exact hs'.own b s hh ee hb
          · simp only
            split
            · rename_i e2; subst e2; rw [hnow] at hb; cases hb
            · exact hb
          · simp only
            split
            · rename_i e2
              subst e2
              rw [hk.1, h1] at hd
              cases hd
            · exact hb
  | _ => exact triv fun g' s1 => trivial

/-- One temporary's room is set aside. -/
theorem pin_tmp {g0 : Gh} {w0 : World} {D : List Deferred} {env : AEnv} {σ : AState} {a : Act} {w : World} {G : Nat → AV} (hG : GOK G g0) (h : Inv g0 w0 D env σ a w) {t z n : Nat} {cs : List AV} (ht : env[t]? = some (.sl (.yes z) n cs)) :
    ∃ x g1, GOK G g1 ∧ Inv g1 w D (env.set t (.val x)) σ a w ∧ ∀ (e : AEnv) (s : AState) (a' : Act) (w' : World) (j : Nat) (e' : AEnv), Inv g1 w D e s a' w' → e[j]? = some (.val x) → e'.length = e.length → (∀ i, i ≠ j → ∀ c, e'[i]? = some c → e[i]? = some c ∨ (e[i]? = some (.val x) ∧ c = .sl .no n cs)) → e'[j]? = some (.sl (.yes z) n cs) → Inv g0 w0 D e' s a' w' := by
  obtain ⟨hd, g, hx, hs, he⟩ := h
  have hlt : t < a.tmps.size := by rw [he.1]; exact (List.getElem?_eq_some_iff.1 ht).1
  have hv : a.tmps[t]? = some a.tmps[t] := Array.getElem?_eq_getElem hlt
  generalize a.tmps[t] = x at hv
  obtain ⟨hR, hO⟩ := he.2 t _ x ht hv
  obtain ⟨g1, ha⟩ := aside hs hO.1
  refine ⟨x, g1, fun k => (by have := (hG.ext hx) k; rw [← ha.S, ← ha.ρ] at this; exact this), ⟨hd, g1, .refl _ _, ⟨by rw [ha.S]; exact hs.imm, by rw [ha.ρ]; exact hs.len, by rw [ha.ρ]; exact hs.inj, fun id o ho => ?_, fun b s hh ee hb => ?_⟩, ⟨by rw [List.length_set]; exact he.1, fun i c v hc hvv => ?_⟩⟩, ?_⟩
  · have k := hs.obj id o ho
    have hn : ∀ bk, g.ow bk = none → g1.ow bk = none := fun bk e => by
      rcases ha.less bk with h | h
      · exact h
      · rw [h]; exact e
    cases o with
    | cells ds =>
      obtain ⟨bk, us, E', fr', k2, k3, k4, k5, k6, k7, k8⟩ := k
      exact ⟨bk, us, E', fr', by rw [ha.ρ]; exact k2, k3, k4, k5, by rw [ha.S]; exact k6, hn bk k7, fun j c v hc hv => ⟨by rw [ha.S, ha.ρ]; exact (k8 j c v hc hv).1, ha.own _ _ _ (by simp) (k8 j c v hc hv).2⟩⟩
    | map es =>
      obtain ⟨bk, ms, clock, k2, k3, k4, k6, k7, k8⟩ := k
      exact ⟨bk, ms, clock, by rw [ha.ρ]; exact k2, k3, k4, by rw [ha.S]; exact k6, hn bk k7, fun j e m q1 q2 => by rw [ha.S, ha.ρ]; exact k8 j e m q1 q2⟩
    | loop r es =>
      obtain ⟨bk, k2, k3, k4, k6, k7, k8⟩ := k
      exact ⟨bk, by rw [ha.ρ]; exact k2, k3, k4, by rw [ha.S]; exact k6, hn bk k7, fun j c v q1 q2 => by rw [ha.S, ha.ρ]; exact k8 j c v q1 q2⟩
    | it itn its es =>
      obtain ⟨bk, itx, k2, k3, k4, k6, k7, k8⟩ := k
      exact ⟨bk, itx, by rw [ha.ρ]; exact k2, k3, k4, by rw [ha.S]; exact k6, hn bk k7, fun j c v q1 q2 => by rw [ha.S, ha.ρ]; exact k8 j c v q1 q2⟩
  · rcases ha.less b with h | h
    · rw [h] at hb; cases hb
    · rw [h] at hb
      rw [ha.S]
      exact hs.own b s hh ee hb
  · by_cases e : t = i
    · subst e
      rw [List.getElem?_set_self (by rw [← he.1]; exact hlt)] at hc
      cases hc
      rw [hv] at hvv
      cases hvv
      exact ⟨.val _, trivial, fun ds vs e => by cases e⟩
    · rw [List.getElem?_set_ne e] at hc
      obtain ⟨k1, k2⟩ := he.2 i c v hc hvv
      refine ⟨by rw [ha.S, ha.ρ]; exact k1, ha.own _ _ _ (by simp; omega) k2.1, fun ds vs e1 e2 k c' v' hc' hv' => ha.own _ _ _ (by simp) (k2.2 ds vs e1 e2 k c' v' hc' hv')⟩
  · intro e s a' w' j e' hi hj hl hrest hj'
    obtain ⟨hd', g', hx', hs', he'⟩ := hi
    obtain ⟨g'', b1, b2, b3, b4, b5, b6, b7⟩ := ha.back g' w' s hx' hs' (.t j 0)
    have hRx : R g''.S g''.ρ (.sl (.yes z) n cs) x := by
      rw [b3, b4]
      have h1 : R g1.S g1.ρ (.sl (.yes z) n cs) x := by rw [ha.S, ha.ρ]; exact hR
      exact h1.ext hx'
    refine ⟨hd', g'', hx.trans b1, b2, by rw [hl]; exact he'.1, fun i c v hc hvv => ?_⟩
    have hval : ∀ (i : Nat) (v : Value), e[i]? = some (AV.val x) → a'.tmps[i]? = some v → v = x := fun i v h1 h2 => by
      have := (he'.2 i _ v h1 h2).1
      cases this
      rfl
    by_cases e1 : i = j
    · subst e1
      rw [hj'] at hc
      cases hc
      rw [hval i v hj hvv]
      exact ⟨hRx, b5, fun ds vs e => by cases e⟩
    · rcases hrest i e1 c hc with hc' | ⟨hc', rfl⟩
      · obtain ⟨k1, k2⟩ := he'.2 i c v hc' hvv
        refine ⟨by rw [b3, b4]; exact k1, b6 _ _ _ k2.1, fun ds vs e1 e2 k c' v' q1 q2 => b6 _ _ _ (k2.2 ds vs e1 e2 k c' v' q1 q2)⟩
      · rw [hval i v hc' hvv]
        exact ⟨hRx.pl, topOwn_pl g'' i (.sl (.yes z) n cs) x⟩

/-- One cell's room is set aside. -/
theorem pin_cell {g0 : Gh} {w0 : World} {D : List Deferred} {env : AEnv} {σ : AState} {a : Act} {w : World} {G : Nat → AV} (hG : GOK G g0) (h : Inv g0 w0 D env σ a w) {id off z n : Nat} {ds cs : List AV} (ho : σ[id]? = some (.cells ds)) (ht : ds[off]? = some (.sl (.yes z) n cs)) :
    ∃ x g1, GOK G g1 ∧ Inv g1 w D env (σ.set id (.cells (ds.set off (.val x)))) a w ∧ ∀ (e : AEnv) (s : AState) (a' : Act) (w' : World) (j : Nat) (e' : AEnv) (ds' : List AV), Inv g1 w D e s a' w' → s[id]? = some (.cells ds') → ds'[off]? = some (.val x) → e[j]? = some (.val x) → e'.length = e.length → (∀ i, i ≠ j → ∀ c, e'[i]? = some c → e[i]? = some c ∨ (e[i]? = some (.val x) ∧ c = .sl .no n cs)) → e'[j]? = some (.sl (.yes z) n cs) → Inv g0 w0 D e' (s.set id (.cells (ds'.set off (.sl .no n cs)))) a' w' := by
  obtain ⟨hd, g, hx, hs, he⟩ := h
  have hid : id < σ.length := (List.getElem?_eq_some_iff.1 ho).1
  have hob := hs.obj id _ ho
  obtain ⟨bk0, us0, E0, fr0, m2, m3, m4, m5, m6, m7, m8⟩ := hob
  have hoff : off < ds.length := (List.getElem?_eq_some_iff.1 ht).1
  have hv : us0[off]? = some (us0[off]'(by rw [m4]; exact hoff)) := Array.getElem?_eq_getElem _
  generalize us0[off]'(by rw [m4]; exact hoff) = x at hv
  obtain ⟨hR, hO⟩ := m8 off _ x ht hv
  obtain ⟨g1, ha⟩ := aside hs hO
  have hn : ∀ bk, g.ow bk = none → g1.ow bk = none := fun bk e => by
    rcases ha.less bk with h | h
    · exact h
    · rw [h]; exact e
  refine ⟨x, g1, fun k => (by have := (hG.ext hx) k; rw [← ha.S, ← ha.ρ] at this; exact this), ⟨hd, g1, .refl _ _, ⟨by rw [ha.S]; exact hs.imm, by rw [ha.ρ, List.length_set]; exact hs.len, by rw [ha.ρ]; exact hs.inj, fun i o hoo => ?_, fun b s hh ee hb => ?_⟩, ⟨he.1, fun i c v hc hvv => ?_⟩⟩, ?_⟩
  · by_cases e : id = i
    · subst e
      rw [List.getElem?_set_self hid] at hoo
      cases hoo
      refine ⟨bk0, us0, E0, fr0, by rw [ha.ρ]; exact m2, m3, by rw [List.length_set]; exact m4, m5, by rw [ha.S]; exact m6, hn bk0 m7, fun j c v hc hvv => ?_⟩
      by_cases ej : off = j
      · subst ej
        rw [List.getElem?_set_self hoff] at hc
        cases hc
        rw [hv] at hvv
        cases hvv
        exact ⟨.val _, trivial⟩
      · rw [List.getElem?_set_ne ej] at hc
        exact ⟨by rw [ha.S, ha.ρ]; exact (m8 j c v hc hvv).1, ha.own _ _ _ (by simp; omega) (m8 j c v hc hvv).2⟩
    · rw [List.getElem?_set_ne e] at hoo
      have k := hs.obj i o hoo
      cases o with
      | cells ds =>
        obtain ⟨bk, us, E', fr', k2, k3, k4, k5, k6, k7, k8⟩ := k
        exact ⟨bk, us, E', fr', by rw [ha.ρ]; exact k2, k3, k4, k5, by rw [ha.S]; exact k6, hn bk k7, fun j c v hc hv => ⟨by rw [ha.S, ha.ρ]; exact (k8 j c v hc hv).1, ha.own _ _ _ (by simp; omega) (k8 j c v hc hv).2⟩⟩
      | map es =>
        obtain ⟨bk, ms, clock, k2, k3, k4, k6, k7, k8⟩ := k
        exact ⟨bk, ms, clock, by rw [ha.ρ]; exact k2, k3, k4, by rw [ha.S]; exact k6, hn bk k7, fun j e m q1 q2 => by rw [ha.S, ha.ρ]; exact k8 j e m q1 q2⟩
      | loop r es =>
        obtain ⟨bk, k2, k3, k4, k6, k7, k8⟩ := k
        exact ⟨bk, by rw [ha.ρ]; exact k2, k3, k4, by rw [ha.S]; exact k6, hn bk k7, fun j c v q1 q2 => by rw [ha.S, ha.ρ]; exact k8 j c v q1 q2⟩
      | it itn its es =>
        obtain ⟨bk, itx, k2, k3, k4, k6, k7, k8⟩ := k
        exact ⟨bk, itx, by rw [ha.ρ]; exact k2, k3, k4, by rw [ha.S]; exact k6, hn bk k7, fun j c v q1 q2 => by rw [ha.S, ha.ρ]; exact k8 j c v q1 q2⟩
  · rcases ha.less b with h | h
    · rw [h] at hb; cases hb
    · rw [h] at hb
      rw [ha.S]
      exact hs.own b s hh ee hb
  · obtain ⟨k1, k2⟩ := he.2 i c v hc hvv
    exact ⟨by rw [ha.S, ha.ρ]; exact k1, ha.own _ _ _ (by simp) k2.1, fun ds vs e1 e2 k c' v' hc' hv' => ha.own _ _ _ (by simp) (k2.2 ds vs e1 e2 k c' v' hc' hv')⟩
  · intro e s a' w' j e' ds' hi hso hdo hj hl hrest hj'
    obtain ⟨hd', g', hx', hs', he'⟩ := hi
    obtain ⟨g'', b1, b2, b3, b4, b5, b6, b7⟩ := ha.back g' w' s hx' hs' (.t j 0)
    have hRx : R g''.S g''.ρ (.sl (.yes z) n cs) x := by
      rw [b3, b4]
      have h1 : R g1.S g1.ρ (.sl (.yes z) n cs) x := by rw [ha.S, ha.ρ]; exact hR
      exact h1.ext hx'
    refine ⟨hd', g'', hx.trans b1, ⟨b2.imm, by rw [List.length_set]; exact b2.len, b2.inj, fun i o hoo => ?_, b2.own⟩, by rw [hl]; exact he'.1, fun i c v hc hvv => ?_⟩
    · by_cases e1 : id = i
      · subst e1
        have hsid := (List.getElem?_eq_some_iff.1 hso).1
        rw [List.getElem?_set_self hsid] at hoo
        cases hoo
        obtain ⟨bk, us, E', fr', k2, k3, k4, k5, k6, k7, k8⟩ := b2.obj id _ hso
        refine ⟨bk, us, E', fr', k2, k3, by rw [List.length_set]; exact k4, k5, k6, k7, fun q c v hc hvv => ?_⟩
        by_cases eq : off = q
        · subst eq
          rw [List.getElem?_set_self (List.getElem?_eq_some_iff.1 hdo).1] at hc
          cases hc
          have h1 := (k8 off _ v hdo hvv).1
          cases h1
          exact ⟨hRx.pl, ownOK_pl g'' _ (.sl (.yes z) n cs) _⟩
        · rw [List.getElem?_set_ne eq] at hc
          exact k8 q c v hc hvv
      · rw [List.getElem?_set_ne e1] at hoo
        exact b2.obj i o hoo
    · have hval : ∀ (i : Nat) (v : Value), e[i]? = some (AV.val x) → a'.tmps[i]? = some v → v = x := fun i v h1 h2 => by
        have := (he'.2 i _ v h1 h2).1
        cases this
        rfl
      by_cases e1 : i = j
      · subst e1
        rw [hj'] at hc
        cases hc
        rw [hval i v hj hvv]
        exact ⟨hRx, b5, fun ds vs e => by cases e⟩
      · rcases hrest i e1 c hc with hc' | ⟨hc', rfl⟩
        · obtain ⟨k1, k2⟩ := he'.2 i c v hc' hvv
          exact ⟨by rw [b3, b4]; exact k1, b6 _ _ _ k2.1, fun ds vs e1 e2 k c' v' q1 q2 => b6 _ _ _ (k2.2 ds vs e1 e2 k c' v' q1 q2)⟩
        · rw [hval i v hc' hvv]
          exact ⟨hRx.pl, topOwn_pl g'' i (.sl (.yes z) n cs) x⟩
end Go.Proofs.Ytoofpdmdgofdcaa.E

namespace Go.Proofs.Ytoofpdmdgofdcaa.E
open Go Go.RowKit
set_option linter.unusedVariables false
set_option linter.unusedSimpArgs false

variable {P : Program}

/-- The first operations, in any order, then the others in theirs. -/
theorem AWp.drawX {rs : Option Nat → Prop} {G : Nat → AV} {Q : AX → AEnv → AState → Prop} {env : AEnv} {σ : AState} {id : Nat} {ops : List Oper} (m : Nat) (cf : List Bool) (hm : P.follows .mixedOrders = true) (hok : okD (ops.take m) (befD (ops.take m)) cf = true) (hsuf : sufOK ops m = true)
    (h : ∀ (g0 : Gh) (w0 : World) (D : List Deferred) (a : Act) (w : World), GOK G g0 → Inv g0 w0 D env σ a w → ∃ g1 w1 env1 σ1 K1, GOK G g1 ∧ Inv g1 w1 D env1 σ1 a w ∧ awD P G (ops.take m) (thenQ K1 fun _ _ _ => False) ((ops.take m).zip cf) env1 σ1 ∧
      ∀ e s a' w', K1 e s → Inv g1 w1 D e s a' w' → ∃ e' s', Inv g0 w0 D e' s' a' w' ∧ awOps P G ops Q (ops.drop m) e' s') :
    AWp P rs G (.region id ⟨ops⟩ true) Q env σ := fun g0 w0 D r n a w hr h1 h2 h3 => by
  refine Go.wpIn_mono (Q := QInv g0 w0 D Q) ?_ QInvM.of
  have H := SufOk.of hsuf
  have hle := H.le
  have hok' := Ok.of hok
  obtain ⟨g1, w1, env1, σ1, K1, p1, p2, p3, p4⟩ := h g0 w0 D a { w with drawn := w.drawn + 1 } h2 (h3.drew _)
  obtain ⟨cs, es, sts, ht, hq⟩ := awD_trace _ _ _ p3
  have hlen : ((ops.take m).zip cf).length = (ops.take m).length := by rw [List.length_zip, hok'.len, Nat.min_self]
  rw [hlen] at hq
  have hpre := any_run (r := r) (n := n) (w0 := w1) (D := D) (Q := thenQ K1 fun _ _ _ => False) p1 h1 hok' ht hq (ops.take m).length (Array.replicate (ops.take m).length false) env1 σ1 a { w with drawn := w.drawn + 1 } (by unfold left; simp) ⟨by simp, fun i o ho hl => by
      exfalso
      unfold lst at hl
      simp [Array.getD_eq_getD_getElem?, Array.getElem?_replicate] at hl
      split at hl <;> simp at hl, ⟨rfl, fun t _ => rfl, fun t j o _ _ hl => by
      exfalso
      unfold lst at hl
      simp [Array.getD_eq_getD_getElem?, Array.getElem?_replicate] at hl
      split at hl <;> simp at hl⟩, 0, Nat.zero_le _, by rw [ht.s0], fun k hk => ⟨fun hl => by
      exfalso
      unfold lst at hl
      simp [Array.getD_eq_getD_getElem?, Array.getElem?_replicate] at hl
      split at hl <;> simp at hl, fun hl => by omega⟩⟩ p2
  have hl : (ops.take m).length = m := by rw [List.length_take]; omega
  rw [hl] at hpre
  refine wpIn_region_any hm ?_
  have hno : ∀ (k j : Nat), ¬ lst (Array.replicate k false) j := fun k j hl => by
    unfold lst at hl
    simp [Array.getD_eq_getD_getElem?, Array.getElem?_replicate] at hl
    split at hl <;> simp at hl
  have := any_pre (F := FW r) (n := n) (P := P) H (Q1 := QInv g1 w1 D (thenQ K1 fun _ _ _ => False)) (Q2 := QInv g0 w0 D Q) (fun ch a w q => by
      obtain ⟨x, v, env, σ, g, k0, k1, k2⟩ := q
      exact k1.elim) (fun ⟨a, w, q⟩ => q.elim) (fun a' w' q L hs hL => by
      obtain ⟨e, s, k1, k2⟩ := q
      obtain ⟨e', s', k3, k4⟩ := p4 e s a' w' k1 k2
      exact any_seq h2 h1 H (ops.length - m) m L e' s' a' w' (by omega) (Nat.le_refl _) hs hL k4 k3) m (Array.replicate m false) (Array.replicate ops.length false) a _ (by unfold left; simp) (by simp) (by simp) (fun j hj => ⟨fun h => absurd h (hno _ _), fun h => absurd h (hno _ _)⟩) (fun j hj => hno _ _) (fun i o ho hl => absurd hl (hno _ _)) hpre
  rw [show m + (ops.length - m) = ops.length by omega] at this
  simpa using this
end Go.Proofs.Ytoofpdmdgofdcaa.E

namespace Go.Proofs.Ytoofpdmdgofdcaa.E
open Go Go.RowKit
set_option linter.unusedVariables false
set_option linter.unusedSimpArgs false

variable {P : Program}

section
variable {G : Nat → AV} {g0 : Gh} {w0 : World} {D : List Deferred} {Q : AX → AEnv → AState → Prop}

/-- As 'awOps'; what an operation is told to be behind it is told by 'φ'. -/
def awOpsH (P : Program) (G : Nat → AV) (φ : List Oper → List Oper) (ops : List Oper) (Q : AX → AEnv → AState → Prop) : List Oper → AEnv → AState → Prop
  | [], env, σ => Q .normal env σ
  | o :: rest, env, σ => match gval ops env o with
    | some b => brK b (aop P G (φ rest) o env σ (awOpsH P G φ ops Q rest) Q) (awOpsH P G φ ops Q rest (aput env o.dst (.tup [])) σ)
    | none => False

theorem awOpsH_sound (hG : GOK G g0) (hGp : GPl G) {φ : List Oper → List Oper} {ops : List Oper} {r : Option Nat} {n : Nat} : ∀ (l : List Oper) (k : Nat) (env : AEnv) (σ : AState) (a : Act) (w : World), (∀ j : Nat, l[j]? = ops[k + j]?) → awOpsH P G φ ops Q l env σ → Inv g0 w0 D env σ a w →
    wpOpsIn (FW r) n P ops.toArray (QInv g0 w0 D Q) (List.range' k l.length) a w
  | [], k, env, σ, a, w, _, h, hi => ⟨env, σ, h, hi⟩
  | o :: rest, k, env, σ, a, w, hl, h, hi => by
    obtain ⟨hd, g, hx, hs, he⟩ := hi
    have h0 : ops[k]? = some o := by simpa using (hl 0).symm
    have hl' : ∀ j : Nat, rest[j]? = ops[k + 1 + j]? := fun j => by rw [show k + 1 + j = k + (j + 1) by omega]; exact hl (j + 1)
    simp only [awOpsH] at h
    simp only [List.length_cons, List.range'_succ, wpOpsIn, List.getElem?_toArray, h0]
    split at h <;> try exact h.elim
    rename_i b hb
    have hw := gval_sound he hb
    rw [hw]
    cases b with
    | true =>
      rw [brK_true] at h
      simp only [if_true]
      refine stp_wpIn (aop_sound hx hs he (hG.ext hx) hGp hd (next := wpOpsIn (FW r) n P ops.toArray (QInv g0 w0 D Q) (List.range' (k + 1) rest.length)) (fun env' σ' a' w' hk hi' => awOpsH_sound hG hGp rest (k + 1) env' σ' a' w' hl' hk hi') QInv.pan h) (aop_defer h)
    | false =>
      rw [brK_false] at h
      simp only [Bool.false_eq_true, if_false]
      refine ⟨fun _ _ => trivial, awOpsH_sound hG hGp rest (k + 1) _ _ _ _ hl' h ⟨by rw [put_defers]; exact hd, g, hx, hs, ?_⟩⟩
      exact he.put' o.dst (.tup [] #[] rfl (fun j c v h => by simp at h)) (fun i _ => ⟨trivial, fun cs vs e1 e2 k c' v' h1 h2 => by cases e1; simp at h1⟩) a rfl
end

variable {rs : Option Nat → Prop} {G : Nat → AV} {Q : AX → AEnv → AState → Prop} {env : AEnv} {σ : AState}

theorem AWp.textH {id : Nat} {ops : List Oper} (φ : List Oper → List Oper) (h : awOpsH P G φ ops Q ops env σ) : AWp P rs G (.region id ⟨ops⟩ false) Q env σ := fun g0 w0 D r n a w hr h1 h2 h3 => by
  apply Go.wpIn_mono (Q := QInv g0 w0 D Q) (hq := QInvM.of)
  apply wpIn_region
  have := awOpsH_sound (r := r) (n := n) h2 h1 ops 0 env σ a w (fun j => by simp) h h3
  rw [List.range_eq_range']
  exact this

/-- What is moved, and then assigned, takes its room with it. -/
theorem AWp.moved {id : Nat} {o1 o2 : Oper} {x : Operand} {d : Tmp} (h1 : o1.op = .move x) (hd : o1.dst = some d) (hg1 : o1.guard = none) (h2 : o2.op = .assign (.tmp d)) (hg2 : o2.guard = none)
    (h : atake G env σ x (some d) fun e s => atake G e s (.tmp d) o2.dst (Q .normal)) : AWp P rs G (.region id ⟨[o1, o2]⟩ false) Q env σ :=
  AWp.textH (fun _ => [⟨none, .call ⟨.builtin .append, #[.tmp d], #[]⟩, 0, "", #[], none⟩]) (by
    have hf : feeds [⟨none, .call ⟨.builtin .append, #[.tmp d], #[]⟩, 0, "", #[], none⟩] o1.dst = true := by rw [hd]; simp [feeds, feeds1, isTmp]
    simp only [awOpsH, gval, hg1, hg2, brK_true, aop, h1, h2]
    rw [if_pos hf, hd]
    exact h)
end Go.Proofs.Ytoofpdmdgofdcaa.E
