/- Slices of whole numbers, opened. No condition. -/
import Derived.Test.YtoofpdmdgofdcaaCA
import Derived.Test.YtoofpdmdgofdcaaEB
namespace Go.Proofs.Ytoofpdmdgofdcaa.L
open Go Go.RowKit Go.ChangeShapes Go.WideShapes Go.Proofs.Ytoofpdmdgofdcaa.E
set_option linter.unusedVariables false
set_option linter.unusedSimpArgs false
set_option maxRecDepth 100000 in
theorem sh_ints {c : AV} (h : Sh Try.prog 2 22 [c]) : ∃ l : List Int, c = .sl .no l.length (encInts l) ∧ l.length ≤ 140737488355328 := by
  obtain ⟨l, h1, h2⟩ := sh_slice (fun m : Int => [AV.i .i64 m]) Try.underlying22 (by kernel_rfl) (of_decide_eq_true (by kernel_rfl)) h fun x _ hx => by
    simp only [Sh, Try.underlying3] at hx
    obtain ⟨m, hm, rfl⟩ := hx
    exact ⟨m, rfl⟩
  refine ⟨l, ?_, h2⟩
  rw [h1]
  congr 1
  unfold encInts
  clear h1 h2
  induction l with
  | nil => rfl
  | cons a l ih => simp at ih ⊢; exact ih

end Go.Proofs.Ytoofpdmdgofdcaa.L

namespace Go.Proofs.Ytoofpdmdgofdcaa.L
open Go Go.RowKit Go.Proofs.Ytoofpdmdgofdcaa.E
set_option linter.unusedVariables false
set_option linter.unusedSimpArgs false

def ownI (l : List Int) : AV := match l with | [] => .sl .nil 0 [] | _ :: _ => .sl (.yes 1) l.length (encInts l)
theorem ownI_app (l : List Int) (x : Int) : ownI (l ++ [x]) = .sl (.yes 1) (l.length + 1) (encInts l ++ [.i .i64 x]) := by
  have : ∀ m : List Int, m ≠ [] → ownI m = .sl (.yes 1) m.length (encInts m) := fun m hm => by cases m with | nil => exact absurd rfl hm | cons => rfl
  rw [this _ (by simp), encInts_app]
  simp [encInts]
theorem ownI_pl (l : List Int) : (ownI l).pl = .sl .no l.length (encInts l) := by cases l <;> rfl
theorem ownI_cases (l : List Int) : (l = [] ∧ ownI l = .sl .nil 0 []) ∨ ownI l = .sl (.yes 1) l.length (encInts l) := by cases l with | nil => exact .inl ⟨rfl, rfl⟩ | cons => exact .inr rfl
theorem cleanB (n : Nat) (l : List UInt8) : cleanL n (encB l) = true := cleanL_of fun c hc => by
  simp only [encB, List.mem_map] at hc
  obtain ⟨s, _, rfl⟩ := hc
  rfl
attribute [go_sem] ownI_pl cleanB
theorem encB_get (l : List UInt8) (k : Nat) (h : k < l.length) : (encB l)[k]? = some (.i .u8 (l[k].toNat : Int)) := by simp [encB, h]

/-- A choice of ChartSpans. -/
def pick3 (b : UInt8) : Int := IntKind.i64.wrap (IntKind.i64.wrap (IntKind.u8.wrap ((b.toNat : Int).tdiv 64)) * IntKind.i64.wrap ((b.toNat : Int).tmod 3))
/-- A class of a choice. -/
def cls (b : UInt8) : Int := IntKind.i64.wrap (1 + IntKind.i64.wrap ((b.toNat : Int).tmod 9))
theorem cls_eq (b : UInt8) : 1 ≤ cls b ∧ cls b ≤ 9 := by
  have h : (b.toNat : Int).tmod 9 = ((b.toNat % 9 : Nat) : Int) := by rw [Int.tmod_eq_emod_of_nonneg (by omega)]; rfl
  unfold cls
  rw [h, wrap_i64 (n := ((b.toNat % 9 : Nat) : Int)) (by omega) (by omega), wrap_i64 (by omega) (by omega)]
  omega

set_option maxRecDepth 10000
set_option maxHeartbeats 1000000
theorem chartSpans (l : List Int) (c : List UInt8) (σ : AState) : ACalls Try.prog G0 3 [.sl .no l.length (encInts l), .sl .no c.length (encB c)] σ (retIs (.b true) σ) := by
  refine ACalls.cln fun hcln => ACalls.bnd fun hbnd => ?_
  have hl : l.length ≤ 281474976710656 := hbnd (.sl .no l.length (encInts l)) (by simp)
  have hc : c.length ≤ 281474976710656 := hbnd (.sl .no c.length (encB c)) (by simp)
  have hwl : IntKind.i64.wrap ((l.length : Int) + (c.length : Int)) = ((l.length + c.length : Nat) : Int) := by rw [wrap_i64 (by omega) (by omega)]; omega
  by_cases hbig : 500 < l.length + c.length
  · have hd : decide ((500 : Int) < ((l.length + c.length : Nat) : Int)) = true := by simp; omega
    refine ACalls.bodyZ G0_pl Try.func3 rfl (by rfl) (by decide) ?_; simp only [Try.ntmps3, List.replicate, go_sem, Nat.reduceAdd, Nat.reduceSub]
    repeat' (first
    | ((first | ((with_reducible refine awOps_move ?_ ?_); decide +kernel) | ((with_reducible refine awOps_load ?_ ?_); decide +kernel) | ((with_reducible refine awOps_one ?_ ?_); decide +kernel) | (with_reducible refine awOps_feed ?_) | ((with_reducible refine awOps_g ?_); refine awOps_guard rfl ?_) | ((with_reducible refine awT_one ?_ ?_); decide +kernel) | ((with_reducible refine awT_call ?_ ?_); decide +kernel) | ((with_reducible refine awT_g ?_); refine awT_guard rfl ?_) | ((with_reducible refine awU_one ?_ ?_); decide +kernel) | ((with_reducible refine awU_call ?_ ?_); decide +kernel) | ((with_reducible refine awU_g ?_); refine awU_guard rfl ?_) | (with_reducible refine AWp.condH ?_)); intro K Q' hK hQ; simp only [hwl, hd, go_sem, Nat.reduceAdd, Nat.reduceSub, Nat.reduceMul, Nat.reduceDiv, Nat.reduceMod, Nat.reduceLT, Nat.reduceLeDiff, Nat.reduceEqDiff, Nat.reduceBEq, Nat.reduceBNe, reduceCtorEq, Int.reduceLE, Int.reduceLT, Int.reduceNeg, Int.reduceToNat, Int.reduceAdd, Int.reduceSub, Int.reduceMul, Int.reduceBEq, Int.reduceBNe, Int.reduceEq]; subst hK hQ)
    | ((with_reducible refine AWp.drawT Try.follows ?_ ?_); decide +kernel) | ((with_reducible refine AWp.drawU Try.follows ?_ ?_); decide +kernel)
    | with_reducible (first | refine awOps_end ?_ | refine awT_end ?_ | refine awU_end ?_ | refine nThen ?_ | refine putKn ?_ | refine nSuf ?_ | refine rThen ?_ | refine eThen ?_ | refine nBlock ?_ | refine eBlock ?_ | refine fBlock (by decide) ?_ | refine rBlock ?_ | refine nScope ?_ | refine eScope ?_ | refine rScope ?_ | refine AWp.seq ?_ | refine AWp.block ?_ | refine AWp.scope ?_ | refine AWp.text ?_ | refine AWp.skip ?_ | refine AWp.exit ?_ | refine AWp.ret ?_ | refine AWp.label ?_ | refine brK_T (by assumption) ?_ | refine brK_F (by assumption) ?_ | refine brK_mk (fun hb => ?_) (fun hb => ?_) | refine And.intro (by first | assumption | omega | simp only [go_sem, reduceCtorEq]) ?_)
    | ((with_reducible (first | refine rBodyZ ?_ | refine nBodyZ ?_ | refine rBodyQ ?_ | refine nBodyQ ?_)); simp only [hwl, hd, go_sem, Nat.reduceAdd, Nat.reduceSub, Nat.reduceMul, Nat.reduceDiv, Nat.reduceMod, Nat.reduceLT, Nat.reduceLeDiff, Nat.reduceEqDiff, Nat.reduceBEq, Nat.reduceBNe, reduceCtorEq, Int.reduceLE, Int.reduceLT, Int.reduceNeg, Int.reduceToNat, Int.reduceAdd, Int.reduceSub, Int.reduceMul, Int.reduceBEq, Int.reduceBNe, Int.reduceEq]))
    refine ACalls.use (known18 σ) ?_
    repeat' (first
    | ((first | ((with_reducible refine awOps_move ?_ ?_); decide +kernel) | ((with_reducible refine awOps_load ?_ ?_); decide +kernel) | ((with_reducible refine awOps_one ?_ ?_); decide +kernel) | (with_reducible refine awOps_feed ?_) | ((with_reducible refine awOps_g ?_); refine awOps_guard rfl ?_) | ((with_reducible refine awT_one ?_ ?_); decide +kernel) | ((with_reducible refine awT_call ?_ ?_); decide +kernel) | ((with_reducible refine awT_g ?_); refine awT_guard rfl ?_) | ((with_reducible refine awU_one ?_ ?_); decide +kernel) | ((with_reducible refine awU_call ?_ ?_); decide +kernel) | ((with_reducible refine awU_g ?_); refine awU_guard rfl ?_) | (with_reducible refine AWp.condH ?_)); intro K Q' hK hQ; simp only [go_sem, Nat.reduceAdd, Nat.reduceSub, Nat.reduceMul, Nat.reduceDiv, Nat.reduceMod, Nat.reduceLT, Nat.reduceLeDiff, Nat.reduceEqDiff, Nat.reduceBEq, Nat.reduceBNe, reduceCtorEq, Int.reduceLE, Int.reduceLT, Int.reduceNeg, Int.reduceToNat, Int.reduceAdd, Int.reduceSub, Int.reduceMul, Int.reduceBEq, Int.reduceBNe, Int.reduceEq]; subst hK hQ)
    | ((with_reducible refine AWp.drawT Try.follows ?_ ?_); decide +kernel) | ((with_reducible refine AWp.drawU Try.follows ?_ ?_); decide +kernel)
    | with_reducible (first | refine awOps_end ?_ | refine awT_end ?_ | refine awU_end ?_ | refine nThen ?_ | refine putKn ?_ | refine nSuf ?_ | refine rThen ?_ | refine eThen ?_ | refine nBlock ?_ | refine eBlock ?_ | refine fBlock (by decide) ?_ | refine rBlock ?_ | refine nScope ?_ | refine eScope ?_ | refine rScope ?_ | refine AWp.seq ?_ | refine AWp.block ?_ | refine AWp.scope ?_ | refine AWp.text ?_ | refine AWp.skip ?_ | refine AWp.exit ?_ | refine AWp.ret ?_ | refine AWp.label ?_ | refine brK_T (by assumption) ?_ | refine brK_F (by assumption) ?_ | refine brK_mk (fun hb => ?_) (fun hb => ?_) | refine And.intro (by first | assumption | omega | simp only [go_sem, reduceCtorEq]) ?_)
    | ((with_reducible (first | refine rBodyZ ?_ | refine nBodyZ ?_ | refine rBodyQ ?_ | refine nBodyQ ?_)); simp only [go_sem, Nat.reduceAdd, Nat.reduceSub, Nat.reduceMul, Nat.reduceDiv, Nat.reduceMod, Nat.reduceLT, Nat.reduceLeDiff, Nat.reduceEqDiff, Nat.reduceBEq, Nat.reduceBNe, reduceCtorEq, Int.reduceLE, Int.reduceLT, Int.reduceNeg, Int.reduceToNat, Int.reduceAdd, Int.reduceSub, Int.reduceMul, Int.reduceBEq, Int.reduceBNe, Int.reduceEq]))
    exact ⟨rfl, rfl⟩
  have hd : decide ((500 : Int) < ((l.length + c.length : Nat) : Int)) = false := by simp; omega
  refine ACalls.bodyF G0_pl Try.func3 rfl (by rfl) (by decide) ?_; simp only [Try.ntmps3, List.replicate, List.length_cons, List.length_nil, List.cons_append, List.nil_append, Nat.reduceAdd, Nat.reduceSub]
  refine AWpZ.seq (AWp.toZ ?_)
  repeat' (first
    | ((first | ((with_reducible refine awOps_move ?_ ?_); decide +kernel) | ((with_reducible refine awOps_load ?_ ?_); decide +kernel) | ((with_reducible refine awOps_one ?_ ?_); decide +kernel) | (with_reducible refine awOps_feed ?_) | ((with_reducible refine awOps_g ?_); refine awOps_guard rfl ?_) | ((with_reducible refine awT_one ?_ ?_); decide +kernel) | ((with_reducible refine awT_call ?_ ?_); decide +kernel) | ((with_reducible refine awT_g ?_); refine awT_guard rfl ?_) | ((with_reducible refine awU_one ?_ ?_); decide +kernel) | ((with_reducible refine awU_call ?_ ?_); decide +kernel) | ((with_reducible refine awU_g ?_); refine awU_guard rfl ?_) | (with_reducible refine AWp.condH ?_)); intro K Q' hK hQ; simp only [go_sem, Nat.reduceAdd, Nat.reduceSub, Nat.reduceMul, Nat.reduceDiv, Nat.reduceMod, Nat.reduceLT, Nat.reduceLeDiff, Nat.reduceEqDiff, Nat.reduceBEq, Nat.reduceBNe, reduceCtorEq, Int.reduceLE, Int.reduceLT, Int.reduceNeg, Int.reduceToNat, Int.reduceAdd, Int.reduceSub, Int.reduceMul, Int.reduceBEq, Int.reduceBNe, Int.reduceEq]; subst hK hQ)
    | ((with_reducible refine AWp.drawT Try.follows ?_ ?_); decide +kernel) | ((with_reducible refine AWp.drawU Try.follows ?_ ?_); decide +kernel)
    | with_reducible (first | refine awOps_end ?_ | refine awT_end ?_ | refine awU_end ?_ | refine nThen ?_ | refine putKn ?_ | refine nSuf ?_ | refine rThen ?_ | refine eThen ?_ | refine nBlock ?_ | refine eBlock ?_ | refine fBlock (by decide) ?_ | refine rBlock ?_ | refine nScope ?_ | refine eScope ?_ | refine rScope ?_ | refine AWp.seq ?_ | refine AWp.block ?_ | refine AWp.scope ?_ | refine AWp.text ?_ | refine AWp.skip ?_ | refine AWp.exit ?_ | refine AWp.ret ?_ | refine AWp.label ?_ | refine brK_T (by assumption) ?_ | refine brK_F (by assumption) ?_ | refine brK_mk (fun hb => ?_) (fun hb => ?_) | refine And.intro (by first | assumption | omega | simp only [go_sem, reduceCtorEq]) ?_)
    | ((with_reducible (first | refine rBodyZ ?_ | refine nBodyZ ?_ | refine rBodyQ ?_ | refine nBodyQ ?_)); simp only [go_sem, Nat.reduceAdd, Nat.reduceSub, Nat.reduceMul, Nat.reduceDiv, Nat.reduceMod, Nat.reduceLT, Nat.reduceLeDiff, Nat.reduceEqDiff, Nat.reduceBEq, Nat.reduceBNe, reduceCtorEq, Int.reduceLE, Int.reduceLT, Int.reduceNeg, Int.reduceToNat, Int.reduceAdd, Int.reduceSub, Int.reduceMul, Int.reduceBEq, Int.reduceBNe, Int.reduceEq]))
  refine AWpZ.seq (AWp.toZ ?_)
  repeat' (first
    | ((first | ((with_reducible refine awOps_move ?_ ?_); decide +kernel) | ((with_reducible refine awOps_load ?_ ?_); decide +kernel) | ((with_reducible refine awOps_one ?_ ?_); decide +kernel) | (with_reducible refine awOps_feed ?_) | ((with_reducible refine awOps_g ?_); refine awOps_guard rfl ?_) | ((with_reducible refine awT_one ?_ ?_); decide +kernel) | ((with_reducible refine awT_call ?_ ?_); decide +kernel) | ((with_reducible refine awT_g ?_); refine awT_guard rfl ?_) | ((with_reducible refine awU_one ?_ ?_); decide +kernel) | ((with_reducible refine awU_call ?_ ?_); decide +kernel) | ((with_reducible refine awU_g ?_); refine awU_guard rfl ?_) | (with_reducible refine AWp.condH ?_)); intro K Q' hK hQ; simp only [hwl, hd, go_sem, Nat.reduceAdd, Nat.reduceSub, Nat.reduceMul, Nat.reduceDiv, Nat.reduceMod, Nat.reduceLT, Nat.reduceLeDiff, Nat.reduceEqDiff, Nat.reduceBEq, Nat.reduceBNe, reduceCtorEq, Int.reduceLE, Int.reduceLT, Int.reduceNeg, Int.reduceToNat, Int.reduceAdd, Int.reduceSub, Int.reduceMul, Int.reduceBEq, Int.reduceBNe, Int.reduceEq]; subst hK hQ)
    | ((with_reducible refine AWp.drawT Try.follows ?_ ?_); decide +kernel) | ((with_reducible refine AWp.drawU Try.follows ?_ ?_); decide +kernel)
    | with_reducible (first | refine awOps_end ?_ | refine awT_end ?_ | refine awU_end ?_ | refine nThen ?_ | refine putKn ?_ | refine nSuf ?_ | refine rThen ?_ | refine eThen ?_ | refine nBlock ?_ | refine eBlock ?_ | refine fBlock (by decide) ?_ | refine rBlock ?_ | refine nScope ?_ | refine eScope ?_ | refine rScope ?_ | refine AWp.seq ?_ | refine AWp.block ?_ | refine AWp.scope ?_ | refine AWp.text ?_ | refine AWp.skip ?_ | refine AWp.exit ?_ | refine AWp.ret ?_ | refine AWp.label ?_ | refine brK_T (by assumption) ?_ | refine brK_F (by assumption) ?_ | refine brK_mk (fun hb => ?_) (fun hb => ?_) | refine And.intro (by first | assumption | omega | simp only [go_sem, reduceCtorEq]) ?_)
    | ((with_reducible (first | refine rBodyZ ?_ | refine nBodyZ ?_ | refine rBodyQ ?_ | refine nBodyQ ?_)); simp only [hwl, hd, go_sem, Nat.reduceAdd, Nat.reduceSub, Nat.reduceMul, Nat.reduceDiv, Nat.reduceMod, Nat.reduceLT, Nat.reduceLeDiff, Nat.reduceEqDiff, Nat.reduceBEq, Nat.reduceBNe, reduceCtorEq, Int.reduceLE, Int.reduceLT, Int.reduceNeg, Int.reduceToNat, Int.reduceAdd, Int.reduceSub, Int.reduceMul, Int.reduceBEq, Int.reduceBNe, Int.reduceEq]))
  refine ACalls.use (known18 σ) ?_
  repeat' (first
    | ((first | ((with_reducible refine awOps_move ?_ ?_); decide +kernel) | ((with_reducible refine awOps_load ?_ ?_); decide +kernel) | ((with_reducible refine awOps_one ?_ ?_); decide +kernel) | (with_reducible refine awOps_feed ?_) | ((with_reducible refine awOps_g ?_); refine awOps_guard rfl ?_) | ((with_reducible refine awT_one ?_ ?_); decide +kernel) | ((with_reducible refine awT_call ?_ ?_); decide +kernel) | ((with_reducible refine awT_g ?_); refine awT_guard rfl ?_) | ((with_reducible refine awU_one ?_ ?_); decide +kernel) | ((with_reducible refine awU_call ?_ ?_); decide +kernel) | ((with_reducible refine awU_g ?_); refine awU_guard rfl ?_) | (with_reducible refine AWp.condH ?_)); intro K Q' hK hQ; simp only [go_sem, Nat.reduceAdd, Nat.reduceSub, Nat.reduceMul, Nat.reduceDiv, Nat.reduceMod, Nat.reduceLT, Nat.reduceLeDiff, Nat.reduceEqDiff, Nat.reduceBEq, Nat.reduceBNe, reduceCtorEq, Int.reduceLE, Int.reduceLT, Int.reduceNeg, Int.reduceToNat, Int.reduceAdd, Int.reduceSub, Int.reduceMul, Int.reduceBEq, Int.reduceBNe, Int.reduceEq]; subst hK hQ)
    | ((with_reducible refine AWp.drawT Try.follows ?_ ?_); decide +kernel) | ((with_reducible refine AWp.drawU Try.follows ?_ ?_); decide +kernel)
    | with_reducible (first | refine awOps_end ?_ | refine awT_end ?_ | refine awU_end ?_ | refine nThen ?_ | refine putKn ?_ | refine nSuf ?_ | refine rThen ?_ | refine eThen ?_ | refine nBlock ?_ | refine eBlock ?_ | refine fBlock (by decide) ?_ | refine rBlock ?_ | refine nScope ?_ | refine eScope ?_ | refine rScope ?_ | refine AWp.seq ?_ | refine AWp.block ?_ | refine AWp.scope ?_ | refine AWp.text ?_ | refine AWp.skip ?_ | refine AWp.exit ?_ | refine AWp.ret ?_ | refine AWp.label ?_ | refine brK_T (by assumption) ?_ | refine brK_F (by assumption) ?_ | refine brK_mk (fun hb => ?_) (fun hb => ?_) | refine And.intro (by first | assumption | omega | simp only [go_sem, reduceCtorEq]) ?_)
    | ((with_reducible (first | refine rBodyZ ?_ | refine nBodyZ ?_ | refine rBodyQ ?_ | refine nBodyQ ?_)); simp only [go_sem, Nat.reduceAdd, Nat.reduceSub, Nat.reduceMul, Nat.reduceDiv, Nat.reduceMod, Nat.reduceLT, Nat.reduceLeDiff, Nat.reduceEqDiff, Nat.reduceBEq, Nat.reduceBNe, reduceCtorEq, Int.reduceLE, Int.reduceLT, Int.reduceNeg, Int.reduceToNat, Int.reduceAdd, Int.reduceSub, Int.reduceMul, Int.reduceBEq, Int.reduceBNe, Int.reduceEq]))
  refine AWpZ.seq (AWp.toZ ?_)
  repeat' (first
    | ((first | ((with_reducible refine awOps_move ?_ ?_); decide +kernel) | ((with_reducible refine awOps_load ?_ ?_); decide +kernel) | ((with_reducible refine awOps_one ?_ ?_); decide +kernel) | (with_reducible refine awOps_feed ?_) | ((with_reducible refine awOps_g ?_); refine awOps_guard rfl ?_) | ((with_reducible refine awT_one ?_ ?_); decide +kernel) | ((with_reducible refine awT_call ?_ ?_); decide +kernel) | ((with_reducible refine awT_g ?_); refine awT_guard rfl ?_) | ((with_reducible refine awU_one ?_ ?_); decide +kernel) | ((with_reducible refine awU_call ?_ ?_); decide +kernel) | ((with_reducible refine awU_g ?_); refine awU_guard rfl ?_) | (with_reducible refine AWp.condH ?_)); intro K Q' hK hQ; simp only [go_sem, Nat.reduceAdd, Nat.reduceSub, Nat.reduceMul, Nat.reduceDiv, Nat.reduceMod, Nat.reduceLT, Nat.reduceLeDiff, Nat.reduceEqDiff, Nat.reduceBEq, Nat.reduceBNe, reduceCtorEq, Int.reduceLE, Int.reduceLT, Int.reduceNeg, Int.reduceToNat, Int.reduceAdd, Int.reduceSub, Int.reduceMul, Int.reduceBEq, Int.reduceBNe, Int.reduceEq]; subst hK hQ)
    | ((with_reducible refine AWp.drawT Try.follows ?_ ?_); decide +kernel) | ((with_reducible refine AWp.drawU Try.follows ?_ ?_); decide +kernel)
    | with_reducible (first | refine awOps_end ?_ | refine awT_end ?_ | refine awU_end ?_ | refine nThen ?_ | refine putKn ?_ | refine nSuf ?_ | refine rThen ?_ | refine eThen ?_ | refine nBlock ?_ | refine eBlock ?_ | refine fBlock (by decide) ?_ | refine rBlock ?_ | refine nScope ?_ | refine eScope ?_ | refine rScope ?_ | refine AWp.seq ?_ | refine AWp.block ?_ | refine AWp.scope ?_ | refine AWp.text ?_ | refine AWp.skip ?_ | refine AWp.exit ?_ | refine AWp.ret ?_ | refine AWp.label ?_ | refine brK_T (by assumption) ?_ | refine brK_F (by assumption) ?_ | refine brK_mk (fun hb => ?_) (fun hb => ?_) | refine And.intro (by first | assumption | omega | simp only [go_sem, reduceCtorEq]) ?_)
    | ((with_reducible (first | refine rBodyZ ?_ | refine nBodyZ ?_ | refine rBodyQ ?_ | refine nBodyQ ?_)); simp only [go_sem, Nat.reduceAdd, Nat.reduceSub, Nat.reduceMul, Nat.reduceDiv, Nat.reduceMod, Nat.reduceLT, Nat.reduceLeDiff, Nat.reduceEqDiff, Nat.reduceBEq, Nat.reduceBNe, reduceCtorEq, Int.reduceLE, Int.reduceLT, Int.reduceNeg, Int.reduceToNat, Int.reduceAdd, Int.reduceSub, Int.reduceMul, Int.reduceBEq, Int.reduceBNe, Int.reduceEq]))
  refine AWpZ.seq (AWp.toZ ?_)
  repeat' (first
    | ((first | ((with_reducible refine awOps_move ?_ ?_); decide +kernel) | ((with_reducible refine awOps_load ?_ ?_); decide +kernel) | ((with_reducible refine awOps_one ?_ ?_); decide +kernel) | (with_reducible refine awOps_feed ?_) | ((with_reducible refine awOps_g ?_); refine awOps_guard rfl ?_) | ((with_reducible refine awT_one ?_ ?_); decide +kernel) | ((with_reducible refine awT_call ?_ ?_); decide +kernel) | ((with_reducible refine awT_g ?_); refine awT_guard rfl ?_) | ((with_reducible refine awU_one ?_ ?_); decide +kernel) | ((with_reducible refine awU_call ?_ ?_); decide +kernel) | ((with_reducible refine awU_g ?_); refine awU_guard rfl ?_) | (with_reducible refine AWp.condH ?_)); intro K Q' hK hQ; simp only [go_sem, Nat.reduceAdd, Nat.reduceSub, Nat.reduceMul, Nat.reduceDiv, Nat.reduceMod, Nat.reduceLT, Nat.reduceLeDiff, Nat.reduceEqDiff, Nat.reduceBEq, Nat.reduceBNe, reduceCtorEq, Int.reduceLE, Int.reduceLT, Int.reduceNeg, Int.reduceToNat, Int.reduceAdd, Int.reduceSub, Int.reduceMul, Int.reduceBEq, Int.reduceBNe, Int.reduceEq]; subst hK hQ)
    | ((with_reducible refine AWp.drawT Try.follows ?_ ?_); decide +kernel) | ((with_reducible refine AWp.drawU Try.follows ?_ ?_); decide +kernel)
    | with_reducible (first | refine awOps_end ?_ | refine awT_end ?_ | refine awU_end ?_ | refine nThen ?_ | refine putKn ?_ | refine nSuf ?_ | refine rThen ?_ | refine eThen ?_ | refine nBlock ?_ | refine eBlock ?_ | refine fBlock (by decide) ?_ | refine rBlock ?_ | refine nScope ?_ | refine eScope ?_ | refine rScope ?_ | refine AWp.seq ?_ | refine AWp.block ?_ | refine AWp.scope ?_ | refine AWp.text ?_ | refine AWp.skip ?_ | refine AWp.exit ?_ | refine AWp.ret ?_ | refine AWp.label ?_ | refine brK_T (by assumption) ?_ | refine brK_F (by assumption) ?_ | refine brK_mk (fun hb => ?_) (fun hb => ?_) | refine And.intro (by first | assumption | omega | simp only [go_sem, reduceCtorEq]) ?_)
    | ((with_reducible (first | refine rBodyZ ?_ | refine nBodyZ ?_ | refine rBodyQ ?_ | refine nBodyQ ?_)); simp only [go_sem, Nat.reduceAdd, Nat.reduceSub, Nat.reduceMul, Nat.reduceDiv, Nat.reduceMod, Nat.reduceLT, Nat.reduceLeDiff, Nat.reduceEqDiff, Nat.reduceBEq, Nat.reduceBNe, reduceCtorEq, Int.reduceLE, Int.reduceLT, Int.reduceNeg, Int.reduceToNat, Int.reduceAdd, Int.reduceSub, Int.reduceMul, Int.reduceBEq, Int.reduceBNe, Int.reduceEq]))
  refine AWp.loop (α := Nat × VecG) (fun x => x.1 ≤ c.length ∧ VOK x.2 1 x.1 (encInts ((c.take x.1).map pick3))) (fun x => c.length - x.1) (fun x => mkE 52 [(0, .sl .no l.length (encInts l)), (1, .sl .no c.length (encB c)), (5, vV σ x.2 1 x.1), (6, .i .i64 x.1)]) (fun x => vS σ x.2 x.1 (encInts ((c.take x.1).map pick3))) (0, ⟨[], 0, []⟩) ⟨Nat.zero_le _, VOK.nil0⟩ ?_ ?_ ?_
  · simp only [Int.natCast_zero, vV, go_sem, Nat.reduceAdd, Nat.reduceSub, Nat.reduceMul, Nat.reduceDiv, Nat.reduceMod, Nat.reduceLT, Nat.reduceLeDiff, Nat.reduceEqDiff, Nat.reduceBEq, Nat.reduceBNe, reduceCtorEq, Int.reduceLE, Int.reduceLT, Int.reduceNeg, Int.reduceToNat, Int.reduceAdd, Int.reduceSub, Int.reduceMul, Int.reduceBEq, Int.reduceBNe, Int.reduceEq]
  · simp only [vS, List.append_nil]
    exact WeakS.refl _
  rintro ⟨k, v⟩ ⟨hk, hv⟩
  simp only at hk hv
  simp only [go_sem, Nat.reduceAdd, Nat.reduceSub, Nat.reduceMul, Nat.reduceDiv, Nat.reduceMod, Nat.reduceLT, Nat.reduceLeDiff, Nat.reduceEqDiff, Nat.reduceBEq, Nat.reduceBNe, reduceCtorEq, Int.reduceLE, Int.reduceLT, Int.reduceNeg, Int.reduceToNat, Int.reduceAdd, Int.reduceSub, Int.reduceMul, Int.reduceBEq, Int.reduceBNe, Int.reduceEq]
  have hm : ((c.take k).map pick3).length = k := by simp; omega
  by_cases hlt : k < c.length
  · have hdk : decide ((k : Int) < (c.length : Int)) = true := by simp; omega
    have hw := wrapS (k := k) (by omega)
    have hgk := encB_get c k hlt
    have hr : (0 : Int) ≤ (k : Int) ∧ (k : Int) < (c.length : Int) := by omega
    have hnext : encInts ((c.take (k + 1)).map pick3) = encInts ((c.take k).map pick3) ++ [.i .i64 (pick3 c[k])] := by rw [List.take_add_one, List.getElem?_eq_getElem hlt, List.map_append, encInts_app]; rfl
    repeat' (first
    | ((first | ((with_reducible refine awOps_move ?_ ?_); decide +kernel) | ((with_reducible refine awOps_load ?_ ?_); decide +kernel) | ((with_reducible refine awOps_one ?_ ?_); decide +kernel) | (with_reducible refine awOps_feed ?_) | ((with_reducible refine awOps_g ?_); refine awOps_guard rfl ?_) | ((with_reducible refine awT_one ?_ ?_); decide +kernel) | ((with_reducible refine awT_call ?_ ?_); decide +kernel) | ((with_reducible refine awT_g ?_); refine awT_guard rfl ?_) | ((with_reducible refine awU_one ?_ ?_); decide +kernel) | ((with_reducible refine awU_call ?_ ?_); decide +kernel) | ((with_reducible refine awU_g ?_); refine awU_guard rfl ?_) | (with_reducible refine AWp.condH ?_)); intro K Q' hK hQ; simp only [hdk, hw, hr, hgk, go_sem, Nat.reduceAdd, Nat.reduceSub, Nat.reduceMul, Nat.reduceDiv, Nat.reduceMod, Nat.reduceLT, Nat.reduceLeDiff, Nat.reduceEqDiff, Nat.reduceBEq, Nat.reduceBNe, reduceCtorEq, Int.reduceLE, Int.reduceLT, Int.reduceNeg, Int.reduceToNat, Int.reduceAdd, Int.reduceSub, Int.reduceMul, Int.reduceBEq, Int.reduceBNe, Int.reduceEq]; subst hK hQ)
    | ((with_reducible refine AWp.drawT Try.follows ?_ ?_); decide +kernel) | ((with_reducible refine AWp.drawU Try.follows ?_ ?_); decide +kernel)
    | with_reducible (first | refine awOps_end ?_ | refine awT_end ?_ | refine awU_end ?_ | refine nThen ?_ | refine putKn ?_ | refine nSuf ?_ | refine rThen ?_ | refine eThen ?_ | refine nBlock ?_ | refine eBlock ?_ | refine fBlock (by decide) ?_ | refine rBlock ?_ | refine nScope ?_ | refine eScope ?_ | refine rScope ?_ | refine AWp.seq ?_ | refine AWp.block ?_ | refine AWp.scope ?_ | refine AWp.text ?_ | refine AWp.skip ?_ | refine AWp.exit ?_ | refine AWp.ret ?_ | refine AWp.label ?_ | refine brK_T (by assumption) ?_ | refine brK_F (by assumption) ?_ | refine brK_mk (fun hb => ?_) (fun hb => ?_) | refine And.intro (by first | assumption | omega | simp only [go_sem, reduceCtorEq]) ?_)
    | ((with_reducible (first | refine rBodyZ ?_ | refine nBodyZ ?_ | refine rBodyQ ?_ | refine nBodyQ ?_)); simp only [hdk, hw, hr, hgk, go_sem, Nat.reduceAdd, Nat.reduceSub, Nat.reduceMul, Nat.reduceDiv, Nat.reduceMod, Nat.reduceLT, Nat.reduceLeDiff, Nat.reduceEqDiff, Nat.reduceBEq, Nat.reduceBNe, reduceCtorEq, Int.reduceLE, Int.reduceLT, Int.reduceNeg, Int.reduceToNat, Int.reduceAdd, Int.reduceSub, Int.reduceMul, Int.reduceBEq, Int.reduceBNe, Int.reduceEq]))
    refine AWp.drawS 15 Try.follows (by decide +kernel) (by decide +kernel) ?_; simp only [List.take_succ_cons, List.take_zero, List.drop_succ_cons, List.drop_zero]
    repeat' (first
    | ((first | ((with_reducible refine awOps_move ?_ ?_); decide +kernel) | ((with_reducible refine awOps_load ?_ ?_); decide +kernel) | ((with_reducible refine awOps_one ?_ ?_); decide +kernel) | (with_reducible refine awOps_feed ?_) | ((with_reducible refine awOps_g ?_); refine awOps_guard rfl ?_) | ((with_reducible refine awT_one ?_ ?_); decide +kernel) | ((with_reducible refine awT_call ?_ ?_); decide +kernel) | ((with_reducible refine awT_g ?_); refine awT_guard rfl ?_) | ((with_reducible refine awU_one ?_ ?_); decide +kernel) | ((with_reducible refine awU_call ?_ ?_); decide +kernel) | ((with_reducible refine awU_g ?_); refine awU_guard rfl ?_) | (with_reducible refine AWp.condH ?_)); intro K Q' hK hQ; simp only [hdk, hw, hr, hgk, go_sem, Nat.reduceAdd, Nat.reduceSub, Nat.reduceMul, Nat.reduceDiv, Nat.reduceMod, Nat.reduceLT, Nat.reduceLeDiff, Nat.reduceEqDiff, Nat.reduceBEq, Nat.reduceBNe, reduceCtorEq, Int.reduceLE, Int.reduceLT, Int.reduceNeg, Int.reduceToNat, Int.reduceAdd, Int.reduceSub, Int.reduceMul, Int.reduceBEq, Int.reduceBNe, Int.reduceEq]; subst hK hQ)
    | ((with_reducible refine AWp.drawT Try.follows ?_ ?_); decide +kernel) | ((with_reducible refine AWp.drawU Try.follows ?_ ?_); decide +kernel)
    | with_reducible (first | refine awOps_end ?_ | refine awT_end ?_ | refine awU_end ?_ | refine nThen ?_ | refine putKn ?_ | refine nSuf ?_ | refine rThen ?_ | refine eThen ?_ | refine nBlock ?_ | refine eBlock ?_ | refine fBlock (by decide) ?_ | refine rBlock ?_ | refine nScope ?_ | refine eScope ?_ | refine rScope ?_ | refine AWp.seq ?_ | refine AWp.block ?_ | refine AWp.scope ?_ | refine AWp.text ?_ | refine AWp.skip ?_ | refine AWp.exit ?_ | refine AWp.ret ?_ | refine AWp.label ?_ | refine brK_T (by assumption) ?_ | refine brK_F (by assumption) ?_ | refine brK_mk (fun hb => ?_) (fun hb => ?_) | refine And.intro (by first | assumption | omega | simp only [go_sem, reduceCtorEq]) ?_)
    | ((with_reducible (first | refine rBodyZ ?_ | refine nBodyZ ?_ | refine rBodyQ ?_ | refine nBodyQ ?_)); simp only [hdk, hw, hr, hgk, go_sem, Nat.reduceAdd, Nat.reduceSub, Nat.reduceMul, Nat.reduceDiv, Nat.reduceMod, Nat.reduceLT, Nat.reduceLeDiff, Nat.reduceEqDiff, Nat.reduceBEq, Nat.reduceBNe, reduceCtorEq, Int.reduceLE, Int.reduceLT, Int.reduceNeg, Int.reduceToNat, Int.reduceAdd, Int.reduceSub, Int.reduceMul, Int.reduceBEq, Int.reduceBNe, Int.reduceEq]))
    refine appC.r ?_
    simp only [aappendM, asrc, go_sem, Nat.reduceAdd, Nat.reduceSub, Nat.reduceMul, Nat.reduceDiv, Nat.reduceMod, Nat.reduceLT, Nat.reduceLeDiff, Nat.reduceEqDiff, Nat.reduceBEq, Nat.reduceBNe, reduceCtorEq, Int.reduceLE, Int.reduceLT, Int.reduceNeg, Int.reduceToNat, Int.reduceAdd, Int.reduceSub, Int.reduceMul, Int.reduceBEq, Int.reduceBNe, Int.reduceEq]

    refine appM_vV hv (by omega) (by simp) (by rfl) (by omega) (by omega) (by rfl) fun v' hv' => ?_
    repeat' (first
    | ((first | ((with_reducible refine awOps_move ?_ ?_); decide +kernel) | ((with_reducible refine awOps_load ?_ ?_); decide +kernel) | ((with_reducible refine awOps_one ?_ ?_); decide +kernel) | (with_reducible refine awOps_feed ?_) | ((with_reducible refine awOps_g ?_); refine awOps_guard rfl ?_) | ((with_reducible refine awT_one ?_ ?_); decide +kernel) | ((with_reducible refine awT_call ?_ ?_); decide +kernel) | ((with_reducible refine awT_g ?_); refine awT_guard rfl ?_) | ((with_reducible refine awU_one ?_ ?_); decide +kernel) | ((with_reducible refine awU_call ?_ ?_); decide +kernel) | ((with_reducible refine awU_g ?_); refine awU_guard rfl ?_) | (with_reducible refine AWp.condH ?_)); intro K Q' hK hQ; simp only [hw, go_sem, Nat.reduceAdd, Nat.reduceSub, Nat.reduceMul, Nat.reduceDiv, Nat.reduceMod, Nat.reduceLT, Nat.reduceLeDiff, Nat.reduceEqDiff, Nat.reduceBEq, Nat.reduceBNe, reduceCtorEq, Int.reduceLE, Int.reduceLT, Int.reduceNeg, Int.reduceToNat, Int.reduceAdd, Int.reduceSub, Int.reduceMul, Int.reduceBEq, Int.reduceBNe, Int.reduceEq]; subst hK hQ)
    | ((with_reducible refine AWp.drawT Try.follows ?_ ?_); decide +kernel) | ((with_reducible refine AWp.drawU Try.follows ?_ ?_); decide +kernel)
    | with_reducible (first | refine awOps_end ?_ | refine awT_end ?_ | refine awU_end ?_ | refine nThen ?_ | refine putKn ?_ | refine nSuf ?_ | refine rThen ?_ | refine eThen ?_ | refine nBlock ?_ | refine eBlock ?_ | refine fBlock (by decide) ?_ | refine rBlock ?_ | refine nScope ?_ | refine eScope ?_ | refine rScope ?_ | refine AWp.seq ?_ | refine AWp.block ?_ | refine AWp.scope ?_ | refine AWp.text ?_ | refine AWp.skip ?_ | refine AWp.exit ?_ | refine AWp.ret ?_ | refine AWp.label ?_ | refine brK_T (by assumption) ?_ | refine brK_F (by assumption) ?_ | refine brK_mk (fun hb => ?_) (fun hb => ?_) | refine And.intro (by first | assumption | omega | simp only [go_sem, reduceCtorEq]) ?_)
    | ((with_reducible (first | refine rBodyZ ?_ | refine nBodyZ ?_ | refine rBodyQ ?_ | refine nBodyQ ?_)); simp only [hw, go_sem, Nat.reduceAdd, Nat.reduceSub, Nat.reduceMul, Nat.reduceDiv, Nat.reduceMod, Nat.reduceLT, Nat.reduceLeDiff, Nat.reduceEqDiff, Nat.reduceBEq, Nat.reduceBNe, reduceCtorEq, Int.reduceLE, Int.reduceLT, Int.reduceNeg, Int.reduceToNat, Int.reduceAdd, Int.reduceSub, Int.reduceMul, Int.reduceBEq, Int.reduceBNe, Int.reduceEq]))
    refine ⟨(k + 1, v'), ⟨by simp only; omega, by rw [hnext]; exact hv'⟩, by simp only; omega, ?_, ?_⟩
    · simp only [hw, go_sem, Nat.reduceAdd, Nat.reduceSub, Nat.reduceMul, Nat.reduceDiv, Nat.reduceMod, Nat.reduceLT, Nat.reduceLeDiff, Nat.reduceEqDiff, Nat.reduceBEq, Nat.reduceBNe, reduceCtorEq, Int.reduceLE, Int.reduceLT, Int.reduceNeg, Int.reduceToNat, Int.reduceAdd, Int.reduceSub, Int.reduceMul, Int.reduceBEq, Int.reduceBNe, Int.reduceEq]
    · simp only [hnext]
      exact WeakS.refl _
  · have hdk : decide ((k : Int) < (c.length : Int)) = false := by simp; omega
    have hkl : k = c.length := by omega
    subst hkl
    simp only [List.take_length] at hv hm ⊢
    repeat' (first
    | ((first | ((with_reducible refine awOps_move ?_ ?_); decide +kernel) | ((with_reducible refine awOps_load ?_ ?_); decide +kernel) | ((with_reducible refine awOps_one ?_ ?_); decide +kernel) | (with_reducible refine awOps_feed ?_) | ((with_reducible refine awOps_g ?_); refine awOps_guard rfl ?_) | ((with_reducible refine awT_one ?_ ?_); decide +kernel) | ((with_reducible refine awT_call ?_ ?_); decide +kernel) | ((with_reducible refine awT_g ?_); refine awT_guard rfl ?_) | ((with_reducible refine awU_one ?_ ?_); decide +kernel) | ((with_reducible refine awU_call ?_ ?_); decide +kernel) | ((with_reducible refine awU_g ?_); refine awU_guard rfl ?_) | (with_reducible refine AWp.condH ?_)); intro K Q' hK hQ; simp only [hdk, go_sem, Nat.reduceAdd, Nat.reduceSub, Nat.reduceMul, Nat.reduceDiv, Nat.reduceMod, Nat.reduceLT, Nat.reduceLeDiff, Nat.reduceEqDiff, Nat.reduceBEq, Nat.reduceBNe, reduceCtorEq, Int.reduceLE, Int.reduceLT, Int.reduceNeg, Int.reduceToNat, Int.reduceAdd, Int.reduceSub, Int.reduceMul, Int.reduceBEq, Int.reduceBNe, Int.reduceEq]; subst hK hQ)
    | ((with_reducible refine AWp.drawT Try.follows ?_ ?_); decide +kernel) | ((with_reducible refine AWp.drawU Try.follows ?_ ?_); decide +kernel)
    | with_reducible (first | refine awOps_end ?_ | refine awT_end ?_ | refine awU_end ?_ | refine nThen ?_ | refine putKn ?_ | refine nSuf ?_ | refine rThen ?_ | refine eThen ?_ | refine nBlock ?_ | refine eBlock ?_ | refine fBlock (by decide) ?_ | refine rBlock ?_ | refine nScope ?_ | refine eScope ?_ | refine rScope ?_ | refine AWp.seq ?_ | refine AWp.block ?_ | refine AWp.scope ?_ | refine AWp.text ?_ | refine AWp.skip ?_ | refine AWp.exit ?_ | refine AWp.ret ?_ | refine AWp.label ?_ | refine brK_T (by assumption) ?_ | refine brK_F (by assumption) ?_ | refine brK_mk (fun hb => ?_) (fun hb => ?_) | refine And.intro (by first | assumption | omega | simp only [go_sem, reduceCtorEq]) ?_)
    | ((with_reducible (first | refine rBodyZ ?_ | refine nBodyZ ?_ | refine rBodyQ ?_ | refine nBodyQ ?_)); simp only [hdk, go_sem, Nat.reduceAdd, Nat.reduceSub, Nat.reduceMul, Nat.reduceDiv, Nat.reduceMod, Nat.reduceLT, Nat.reduceLeDiff, Nat.reduceEqDiff, Nat.reduceBEq, Nat.reduceBNe, reduceCtorEq, Int.reduceLE, Int.reduceLT, Int.reduceNeg, Int.reduceToNat, Int.reduceAdd, Int.reduceSub, Int.reduceMul, Int.reduceBEq, Int.reduceBNe, Int.reduceEq]))

    refine AWpZ.freeze σ.length (Nat.le_refl _) ?_ (by rw [vS_take]; exact hcln) ?_
    · rw [vS_take]
      have hf := frz_vV (σ := σ) hv
      simp only [List.map_cons, List.map_nil, hf]
      obtain ⟨o, ho⟩ := vN_cases hv
      simp only [ho]
      generalize c.map pick3 = M at *
      refine AWp.toZ ?_
      repeat' (first
    | ((first | ((with_reducible refine awOps_move ?_ ?_); decide +kernel) | ((with_reducible refine awOps_load ?_ ?_); decide +kernel) | ((with_reducible refine awOps_one ?_ ?_); decide +kernel) | (with_reducible refine awOps_feed ?_) | ((with_reducible refine awOps_g ?_); refine awOps_guard rfl ?_) | ((with_reducible refine awT_one ?_ ?_); decide +kernel) | ((with_reducible refine awT_call ?_ ?_); decide +kernel) | ((with_reducible refine awT_g ?_); refine awT_guard rfl ?_) | ((with_reducible refine awU_one ?_ ?_); decide +kernel) | ((with_reducible refine awU_call ?_ ?_); decide +kernel) | ((with_reducible refine awU_g ?_); refine awU_guard rfl ?_) | (with_reducible refine AWp.condH ?_)); intro K Q' hK hQ; simp only [go_sem, Nat.reduceAdd, Nat.reduceSub, Nat.reduceMul, Nat.reduceDiv, Nat.reduceMod, Nat.reduceLT, Nat.reduceLeDiff, Nat.reduceEqDiff, Nat.reduceBEq, Nat.reduceBNe, reduceCtorEq, Int.reduceLE, Int.reduceLT, Int.reduceNeg, Int.reduceToNat, Int.reduceAdd, Int.reduceSub, Int.reduceMul, Int.reduceBEq, Int.reduceBNe, Int.reduceEq]; subst hK hQ)
    | ((with_reducible refine AWp.drawT Try.follows ?_ ?_); decide +kernel) | ((with_reducible refine AWp.drawU Try.follows ?_ ?_); decide +kernel)
    | with_reducible (first | refine awOps_end ?_ | refine awT_end ?_ | refine awU_end ?_ | refine nThen ?_ | refine putKn ?_ | refine nSuf ?_ | refine rThen ?_ | refine eThen ?_ | refine nBlock ?_ | refine eBlock ?_ | refine fBlock (by decide) ?_ | refine rBlock ?_ | refine nScope ?_ | refine eScope ?_ | refine rScope ?_ | refine AWp.seq ?_ | refine AWp.block ?_ | refine AWp.scope ?_ | refine AWp.text ?_ | refine AWp.skip ?_ | refine AWp.exit ?_ | refine AWp.ret ?_ | refine AWp.label ?_ | refine brK_T (by assumption) ?_ | refine brK_F (by assumption) ?_ | refine brK_mk (fun hb => ?_) (fun hb => ?_) | refine And.intro (by first | assumption | omega | simp only [go_sem, reduceCtorEq]) ?_)
    | ((with_reducible (first | refine rBodyZ ?_ | refine nBodyZ ?_ | refine rBodyQ ?_ | refine nBodyQ ?_)); simp only [go_sem, Nat.reduceAdd, Nat.reduceSub, Nat.reduceMul, Nat.reduceDiv, Nat.reduceMod, Nat.reduceLT, Nat.reduceLeDiff, Nat.reduceEqDiff, Nat.reduceBEq, Nat.reduceBNe, reduceCtorEq, Int.reduceLE, Int.reduceLT, Int.reduceNeg, Int.reduceToNat, Int.reduceAdd, Int.reduceSub, Int.reduceMul, Int.reduceBEq, Int.reduceBNe, Int.reduceEq]))
      refine ACalls.use (spans l (by omega) σ) ?_
      repeat' (first
    | ((first | ((with_reducible refine awOps_move ?_ ?_); decide +kernel) | ((with_reducible refine awOps_load ?_ ?_); decide +kernel) | ((with_reducible refine awOps_one ?_ ?_); decide +kernel) | (with_reducible refine awOps_feed ?_) | ((with_reducible refine awOps_g ?_); refine awOps_guard rfl ?_) | ((with_reducible refine awT_one ?_ ?_); decide +kernel) | ((with_reducible refine awT_call ?_ ?_); decide +kernel) | ((with_reducible refine awT_g ?_); refine awT_guard rfl ?_) | ((with_reducible refine awU_one ?_ ?_); decide +kernel) | ((with_reducible refine awU_call ?_ ?_); decide +kernel) | ((with_reducible refine awU_g ?_); refine awU_guard rfl ?_) | (with_reducible refine AWp.condH ?_)); intro K Q' hK hQ; simp only [go_sem, Nat.reduceAdd, Nat.reduceSub, Nat.reduceMul, Nat.reduceDiv, Nat.reduceMod, Nat.reduceLT, Nat.reduceLeDiff, Nat.reduceEqDiff, Nat.reduceBEq, Nat.reduceBNe, reduceCtorEq, Int.reduceLE, Int.reduceLT, Int.reduceNeg, Int.reduceToNat, Int.reduceAdd, Int.reduceSub, Int.reduceMul, Int.reduceBEq, Int.reduceBNe, Int.reduceEq]; subst hK hQ)
    | ((with_reducible refine AWp.drawT Try.follows ?_ ?_); decide +kernel) | ((with_reducible refine AWp.drawU Try.follows ?_ ?_); decide +kernel)
    | with_reducible (first | refine awOps_end ?_ | refine awT_end ?_ | refine awU_end ?_ | refine nThen ?_ | refine putKn ?_ | refine nSuf ?_ | refine rThen ?_ | refine eThen ?_ | refine nBlock ?_ | refine eBlock ?_ | refine fBlock (by decide) ?_ | refine rBlock ?_ | refine nScope ?_ | refine eScope ?_ | refine rScope ?_ | refine AWp.seq ?_ | refine AWp.block ?_ | refine AWp.scope ?_ | refine AWp.text ?_ | refine AWp.skip ?_ | refine AWp.exit ?_ | refine AWp.ret ?_ | refine AWp.label ?_ | refine brK_T (by assumption) ?_ | refine brK_F (by assumption) ?_ | refine brK_mk (fun hb => ?_) (fun hb => ?_) | refine And.intro (by first | assumption | omega | simp only [go_sem, reduceCtorEq]) ?_)
    | ((with_reducible (first | refine rBodyZ ?_ | refine nBodyZ ?_ | refine rBodyQ ?_ | refine nBodyQ ?_)); simp only [go_sem, Nat.reduceAdd, Nat.reduceSub, Nat.reduceMul, Nat.reduceDiv, Nat.reduceMod, Nat.reduceLT, Nat.reduceLeDiff, Nat.reduceEqDiff, Nat.reduceBEq, Nat.reduceBNe, reduceCtorEq, Int.reduceLE, Int.reduceLT, Int.reduceNeg, Int.reduceToNat, Int.reduceAdd, Int.reduceSub, Int.reduceMul, Int.reduceBEq, Int.reduceBNe, Int.reduceEq]))
      refine ACalls.use (refSpans l σ (by omega)) ?_
      repeat' (first
    | ((first | ((with_reducible refine awOps_move ?_ ?_); decide +kernel) | ((with_reducible refine awOps_load ?_ ?_); decide +kernel) | ((with_reducible refine awOps_one ?_ ?_); decide +kernel) | (with_reducible refine awOps_feed ?_) | ((with_reducible refine awOps_g ?_); refine awOps_guard rfl ?_) | ((with_reducible refine awT_one ?_ ?_); decide +kernel) | ((with_reducible refine awT_call ?_ ?_); decide +kernel) | ((with_reducible refine awT_g ?_); refine awT_guard rfl ?_) | ((with_reducible refine awU_one ?_ ?_); decide +kernel) | ((with_reducible refine awU_call ?_ ?_); decide +kernel) | ((with_reducible refine awU_g ?_); refine awU_guard rfl ?_) | (with_reducible refine AWp.condH ?_)); intro K Q' hK hQ; simp only [go_sem, Nat.reduceAdd, Nat.reduceSub, Nat.reduceMul, Nat.reduceDiv, Nat.reduceMod, Nat.reduceLT, Nat.reduceLeDiff, Nat.reduceEqDiff, Nat.reduceBEq, Nat.reduceBNe, reduceCtorEq, Int.reduceLE, Int.reduceLT, Int.reduceNeg, Int.reduceToNat, Int.reduceAdd, Int.reduceSub, Int.reduceMul, Int.reduceBEq, Int.reduceBNe, Int.reduceEq]; subst hK hQ)
    | ((with_reducible refine AWp.drawT Try.follows ?_ ?_); decide +kernel) | ((with_reducible refine AWp.drawU Try.follows ?_ ?_); decide +kernel)
    | with_reducible (first | refine awOps_end ?_ | refine awT_end ?_ | refine awU_end ?_ | refine nThen ?_ | refine putKn ?_ | refine nSuf ?_ | refine rThen ?_ | refine eThen ?_ | refine nBlock ?_ | refine eBlock ?_ | refine fBlock (by decide) ?_ | refine rBlock ?_ | refine nScope ?_ | refine eScope ?_ | refine rScope ?_ | refine AWp.seq ?_ | refine AWp.block ?_ | refine AWp.scope ?_ | refine AWp.text ?_ | refine AWp.skip ?_ | refine AWp.exit ?_ | refine AWp.ret ?_ | refine AWp.label ?_ | refine brK_T (by assumption) ?_ | refine brK_F (by assumption) ?_ | refine brK_mk (fun hb => ?_) (fun hb => ?_) | refine And.intro (by first | assumption | omega | simp only [go_sem, reduceCtorEq]) ?_)
    | ((with_reducible (first | refine rBodyZ ?_ | refine nBodyZ ?_ | refine rBodyQ ?_ | refine nBodyQ ?_)); simp only [go_sem, Nat.reduceAdd, Nat.reduceSub, Nat.reduceMul, Nat.reduceDiv, Nat.reduceMod, Nat.reduceLT, Nat.reduceLeDiff, Nat.reduceEqDiff, Nat.reduceBEq, Nat.reduceBNe, reduceCtorEq, Int.reduceLE, Int.reduceLT, Int.reduceNeg, Int.reduceToNat, Int.reduceAdd, Int.reduceSub, Int.reduceMul, Int.reduceBEq, Int.reduceBNe, Int.reduceEq]))
      refine ACalls.use (same _ _ (Nat.le_trans (spansFrom_len l _ 0 (Nat.le_refl _)) (by omega)) σ) ?_
      rw [← hm]
      repeat' (first
    | ((first | ((with_reducible refine awOps_move ?_ ?_); decide +kernel) | ((with_reducible refine awOps_load ?_ ?_); decide +kernel) | ((with_reducible refine awOps_one ?_ ?_); decide +kernel) | (with_reducible refine awOps_feed ?_) | ((with_reducible refine awOps_g ?_); refine awOps_guard rfl ?_) | ((with_reducible refine awT_one ?_ ?_); decide +kernel) | ((with_reducible refine awT_call ?_ ?_); decide +kernel) | ((with_reducible refine awT_g ?_); refine awT_guard rfl ?_) | ((with_reducible refine awU_one ?_ ?_); decide +kernel) | ((with_reducible refine awU_call ?_ ?_); decide +kernel) | ((with_reducible refine awU_g ?_); refine awU_guard rfl ?_) | (with_reducible refine AWp.condH ?_)); intro K Q' hK hQ; simp only [go_sem, Nat.reduceAdd, Nat.reduceSub, Nat.reduceMul, Nat.reduceDiv, Nat.reduceMod, Nat.reduceLT, Nat.reduceLeDiff, Nat.reduceEqDiff, Nat.reduceBEq, Nat.reduceBNe, reduceCtorEq, Int.reduceLE, Int.reduceLT, Int.reduceNeg, Int.reduceToNat, Int.reduceAdd, Int.reduceSub, Int.reduceMul, Int.reduceBEq, Int.reduceBNe, Int.reduceEq]; subst hK hQ)
    | ((with_reducible refine AWp.drawT Try.follows ?_ ?_); decide +kernel) | ((with_reducible refine AWp.drawU Try.follows ?_ ?_); decide +kernel)
    | with_reducible (first | refine awOps_end ?_ | refine awT_end ?_ | refine awU_end ?_ | refine nThen ?_ | refine putKn ?_ | refine nSuf ?_ | refine rThen ?_ | refine eThen ?_ | refine nBlock ?_ | refine eBlock ?_ | refine fBlock (by decide) ?_ | refine rBlock ?_ | refine nScope ?_ | refine eScope ?_ | refine rScope ?_ | refine AWp.seq ?_ | refine AWp.block ?_ | refine AWp.scope ?_ | refine AWp.text ?_ | refine AWp.skip ?_ | refine AWp.exit ?_ | refine AWp.ret ?_ | refine AWp.label ?_ | refine brK_T (by assumption) ?_ | refine brK_F (by assumption) ?_ | refine brK_mk (fun hb => ?_) (fun hb => ?_) | refine And.intro (by first | assumption | omega | simp only [go_sem, reduceCtorEq]) ?_)
    | ((with_reducible (first | refine rBodyZ ?_ | refine nBodyZ ?_ | refine rBodyQ ?_ | refine nBodyQ ?_)); simp only [go_sem, Nat.reduceAdd, Nat.reduceSub, Nat.reduceMul, Nat.reduceDiv, Nat.reduceMod, Nat.reduceLT, Nat.reduceLeDiff, Nat.reduceEqDiff, Nat.reduceBEq, Nat.reduceBNe, reduceCtorEq, Int.reduceLE, Int.reduceLT, Int.reduceNeg, Int.reduceToNat, Int.reduceAdd, Int.reduceSub, Int.reduceMul, Int.reduceBEq, Int.reduceBNe, Int.reduceEq]))
      refine ACalls.use (spans M (by omega) σ) ?_
      repeat' (first
    | ((first | ((with_reducible refine awOps_move ?_ ?_); decide +kernel) | ((with_reducible refine awOps_load ?_ ?_); decide +kernel) | ((with_reducible refine awOps_one ?_ ?_); decide +kernel) | (with_reducible refine awOps_feed ?_) | ((with_reducible refine awOps_g ?_); refine awOps_guard rfl ?_) | ((with_reducible refine awT_one ?_ ?_); decide +kernel) | ((with_reducible refine awT_call ?_ ?_); decide +kernel) | ((with_reducible refine awT_g ?_); refine awT_guard rfl ?_) | ((with_reducible refine awU_one ?_ ?_); decide +kernel) | ((with_reducible refine awU_call ?_ ?_); decide +kernel) | ((with_reducible refine awU_g ?_); refine awU_guard rfl ?_) | (with_reducible refine AWp.condH ?_)); intro K Q' hK hQ; simp only [go_sem, Nat.reduceAdd, Nat.reduceSub, Nat.reduceMul, Nat.reduceDiv, Nat.reduceMod, Nat.reduceLT, Nat.reduceLeDiff, Nat.reduceEqDiff, Nat.reduceBEq, Nat.reduceBNe, reduceCtorEq, Int.reduceLE, Int.reduceLT, Int.reduceNeg, Int.reduceToNat, Int.reduceAdd, Int.reduceSub, Int.reduceMul, Int.reduceBEq, Int.reduceBNe, Int.reduceEq]; subst hK hQ)
    | ((with_reducible refine AWp.drawT Try.follows ?_ ?_); decide +kernel) | ((with_reducible refine AWp.drawU Try.follows ?_ ?_); decide +kernel)
    | with_reducible (first | refine awOps_end ?_ | refine awT_end ?_ | refine awU_end ?_ | refine nThen ?_ | refine putKn ?_ | refine nSuf ?_ | refine rThen ?_ | refine eThen ?_ | refine nBlock ?_ | refine eBlock ?_ | refine fBlock (by decide) ?_ | refine rBlock ?_ | refine nScope ?_ | refine eScope ?_ | refine rScope ?_ | refine AWp.seq ?_ | refine AWp.block ?_ | refine AWp.scope ?_ | refine AWp.text ?_ | refine AWp.skip ?_ | refine AWp.exit ?_ | refine AWp.ret ?_ | refine AWp.label ?_ | refine brK_T (by assumption) ?_ | refine brK_F (by assumption) ?_ | refine brK_mk (fun hb => ?_) (fun hb => ?_) | refine And.intro (by first | assumption | omega | simp only [go_sem, reduceCtorEq]) ?_)
    | ((with_reducible (first | refine rBodyZ ?_ | refine nBodyZ ?_ | refine rBodyQ ?_ | refine nBodyQ ?_)); simp only [go_sem, Nat.reduceAdd, Nat.reduceSub, Nat.reduceMul, Nat.reduceDiv, Nat.reduceMod, Nat.reduceLT, Nat.reduceLeDiff, Nat.reduceEqDiff, Nat.reduceBEq, Nat.reduceBNe, reduceCtorEq, Int.reduceLE, Int.reduceLT, Int.reduceNeg, Int.reduceToNat, Int.reduceAdd, Int.reduceSub, Int.reduceMul, Int.reduceBEq, Int.reduceBNe, Int.reduceEq]))
      refine ACalls.use (refSpans M σ (by omega)) ?_
      repeat' (first
    | ((first | ((with_reducible refine awOps_move ?_ ?_); decide +kernel) | ((with_reducible refine awOps_load ?_ ?_); decide +kernel) | ((with_reducible refine awOps_one ?_ ?_); decide +kernel) | (with_reducible refine awOps_feed ?_) | ((with_reducible refine awOps_g ?_); refine awOps_guard rfl ?_) | ((with_reducible refine awT_one ?_ ?_); decide +kernel) | ((with_reducible refine awT_call ?_ ?_); decide +kernel) | ((with_reducible refine awT_g ?_); refine awT_guard rfl ?_) | ((with_reducible refine awU_one ?_ ?_); decide +kernel) | ((with_reducible refine awU_call ?_ ?_); decide +kernel) | ((with_reducible refine awU_g ?_); refine awU_guard rfl ?_) | (with_reducible refine AWp.condH ?_)); intro K Q' hK hQ; simp only [go_sem, Nat.reduceAdd, Nat.reduceSub, Nat.reduceMul, Nat.reduceDiv, Nat.reduceMod, Nat.reduceLT, Nat.reduceLeDiff, Nat.reduceEqDiff, Nat.reduceBEq, Nat.reduceBNe, reduceCtorEq, Int.reduceLE, Int.reduceLT, Int.reduceNeg, Int.reduceToNat, Int.reduceAdd, Int.reduceSub, Int.reduceMul, Int.reduceBEq, Int.reduceBNe, Int.reduceEq]; subst hK hQ)
    | ((with_reducible refine AWp.drawT Try.follows ?_ ?_); decide +kernel) | ((with_reducible refine AWp.drawU Try.follows ?_ ?_); decide +kernel)
    | with_reducible (first | refine awOps_end ?_ | refine awT_end ?_ | refine awU_end ?_ | refine nThen ?_ | refine putKn ?_ | refine nSuf ?_ | refine rThen ?_ | refine eThen ?_ | refine nBlock ?_ | refine eBlock ?_ | refine fBlock (by decide) ?_ | refine rBlock ?_ | refine nScope ?_ | refine eScope ?_ | refine rScope ?_ | refine AWp.seq ?_ | refine AWp.block ?_ | refine AWp.scope ?_ | refine AWp.text ?_ | refine AWp.skip ?_ | refine AWp.exit ?_ | refine AWp.ret ?_ | refine AWp.label ?_ | refine brK_T (by assumption) ?_ | refine brK_F (by assumption) ?_ | refine brK_mk (fun hb => ?_) (fun hb => ?_) | refine And.intro (by first | assumption | omega | simp only [go_sem, reduceCtorEq]) ?_)
    | ((with_reducible (first | refine rBodyZ ?_ | refine nBodyZ ?_ | refine rBodyQ ?_ | refine nBodyQ ?_)); simp only [go_sem, Nat.reduceAdd, Nat.reduceSub, Nat.reduceMul, Nat.reduceDiv, Nat.reduceMod, Nat.reduceLT, Nat.reduceLeDiff, Nat.reduceEqDiff, Nat.reduceBEq, Nat.reduceBNe, reduceCtorEq, Int.reduceLE, Int.reduceLT, Int.reduceNeg, Int.reduceToNat, Int.reduceAdd, Int.reduceSub, Int.reduceMul, Int.reduceBEq, Int.reduceBNe, Int.reduceEq]))
      refine ACalls.use (same _ _ (Nat.le_trans (spansFrom_len M _ 0 (Nat.le_refl _)) (by omega)) σ) ?_
      repeat' (first
    | ((first | ((with_reducible refine awOps_move ?_ ?_); decide +kernel) | ((with_reducible refine awOps_load ?_ ?_); decide +kernel) | ((with_reducible refine awOps_one ?_ ?_); decide +kernel) | (with_reducible refine awOps_feed ?_) | ((with_reducible refine awOps_g ?_); refine awOps_guard rfl ?_) | ((with_reducible refine awT_one ?_ ?_); decide +kernel) | ((with_reducible refine awT_call ?_ ?_); decide +kernel) | ((with_reducible refine awT_g ?_); refine awT_guard rfl ?_) | ((with_reducible refine awU_one ?_ ?_); decide +kernel) | ((with_reducible refine awU_call ?_ ?_); decide +kernel) | ((with_reducible refine awU_g ?_); refine awU_guard rfl ?_) | (with_reducible refine AWp.condH ?_)); intro K Q' hK hQ; simp only [go_sem, Nat.reduceAdd, Nat.reduceSub, Nat.reduceMul, Nat.reduceDiv, Nat.reduceMod, Nat.reduceLT, Nat.reduceLeDiff, Nat.reduceEqDiff, Nat.reduceBEq, Nat.reduceBNe, reduceCtorEq, Int.reduceLE, Int.reduceLT, Int.reduceNeg, Int.reduceToNat, Int.reduceAdd, Int.reduceSub, Int.reduceMul, Int.reduceBEq, Int.reduceBNe, Int.reduceEq]; subst hK hQ)
    | ((with_reducible refine AWp.drawT Try.follows ?_ ?_); decide +kernel) | ((with_reducible refine AWp.drawU Try.follows ?_ ?_); decide +kernel)
    | with_reducible (first | refine awOps_end ?_ | refine awT_end ?_ | refine awU_end ?_ | refine nThen ?_ | refine putKn ?_ | refine nSuf ?_ | refine rThen ?_ | refine eThen ?_ | refine nBlock ?_ | refine eBlock ?_ | refine fBlock (by decide) ?_ | refine rBlock ?_ | refine nScope ?_ | refine eScope ?_ | refine rScope ?_ | refine AWp.seq ?_ | refine AWp.block ?_ | refine AWp.scope ?_ | refine AWp.text ?_ | refine AWp.skip ?_ | refine AWp.exit ?_ | refine AWp.ret ?_ | refine AWp.label ?_ | refine brK_T (by assumption) ?_ | refine brK_F (by assumption) ?_ | refine brK_mk (fun hb => ?_) (fun hb => ?_) | refine And.intro (by first | assumption | omega | simp only [go_sem, reduceCtorEq]) ?_)
    | ((with_reducible (first | refine rBodyZ ?_ | refine nBodyZ ?_ | refine rBodyQ ?_ | refine nBodyQ ?_)); simp only [go_sem, Nat.reduceAdd, Nat.reduceSub, Nat.reduceMul, Nat.reduceDiv, Nat.reduceMod, Nat.reduceLT, Nat.reduceLeDiff, Nat.reduceEqDiff, Nat.reduceBEq, Nat.reduceBNe, reduceCtorEq, Int.reduceLE, Int.reduceLT, Int.reduceNeg, Int.reduceToNat, Int.reduceAdd, Int.reduceSub, Int.reduceMul, Int.reduceBEq, Int.reduceBNe, Int.reduceEq]))
      exact ⟨rfl, rfl⟩
    · have hf := frz_vV (σ := σ) hv
      obtain ⟨o, ho⟩ := vN_cases hv
      simp only [List.map_cons, List.map_nil, hf, ho]
      simp only [go_sem, Nat.reduceAdd, Nat.reduceSub, Nat.reduceMul, Nat.reduceDiv, Nat.reduceMod, Nat.reduceLT, Nat.reduceLeDiff, Nat.reduceEqDiff, Nat.reduceBEq, Nat.reduceBNe, reduceCtorEq, Int.reduceLE, Int.reduceLT, Int.reduceNeg, Int.reduceToNat, Int.reduceAdd, Int.reduceSub, Int.reduceMul, Int.reduceBEq, Int.reduceBNe, Int.reduceEq]
end Go.Proofs.Ytoofpdmdgofdcaa.L

namespace Go.Proofs.Ytoofpdmdgofdcaa.L
open Go Go.RowKit Go.Proofs.Ytoofpdmdgofdcaa.E
set_option linter.unusedVariables false
set_option linter.unusedSimpArgs false

theorem clsM (c : List UInt8) : ∀ x ∈ c.map cls, 1 ≤ x ∧ x ≤ 9 := fun x hx => by
  obtain ⟨b, _, rfl⟩ := List.mem_map.1 hx
  exact cls_eq b
theorem oneS (l : List Span) : (encSpans l).all one = true := List.all_eq_true.2 fun c hc => by
  simp only [encSpans, List.mem_flatMap] at hc
  obtain ⟨s, _, hc⟩ := hc
  simp [encSpan] at hc
  rcases hc with rfl | rfl | rfl <;> rfl
theorem encSpans_set : ∀ (l : List Span) (i : Nat) (x : Span), encSpans (l.set i x) = (((encSpans l).set (i * 3) (.i .i64 x.1)).set (i * 3 + 1) (.i .i64 x.2.1)).set (i * 3 + 2) (.i .i64 x.2.2) ∨ l.length ≤ i
  | [], i, x => .inr (by simp)
  | a :: l, 0, x => .inl (by simp [encSpans, encSpan])
  | a :: l, i + 1, x => by
    rcases encSpans_set l i x with h | h
    · left
      have e : ∀ m : List Span, encSpans (a :: m) = .i .i64 a.1 :: .i .i64 a.2.1 :: .i .i64 a.2.2 :: encSpans m := fun m => rfl
      rw [List.set_cons_succ, e, h, e, show (i + 1) * 3 = i * 3 + 1 + 1 + 1 by omega]
      simp
    · right; simpa using h
theorem set_self {α : Type} (l : List α) (i : Nat) (a : α) (h : l[i]? = some a) : l.set i a = l := by
  apply List.ext_getElem?
  intro j
  rw [List.getElem?_set]
  split
  · rename_i e
    subst e
    split
    · exact h.symm
    · rename_i h2; rw [List.getElem?_eq_none (by omega)] at h; cases h
  · rfl
theorem set_from (l : List Span) (i : Nat) (v : Int) (j : List AV) (h : i < l.length) : (encSpans l ++ j).set (i * 3) (.i .i64 v) = encSpans (l.set i (v, l[i].2.1, l[i].2.2)) ++ j := by
  have hl := encSpans_len l
  obtain ⟨h1, h2, h3⟩ := encSpans_get l i l[i] (List.getElem?_eq_getElem h)
  rw [List.set_append_left _ _ (by omega)]
  congr 1
  rcases encSpans_set l i (v, l[i].2.1, l[i].2.2) with h4 | h4
  · rw [h4, set_self _ (i * 3 + 1) _ (by rw [List.getElem?_set_ne (by omega)]; exact h2), set_self _ (i * 3 + 2) _ (by rw [List.getElem?_set_ne (by omega)]; exact h3)]
  · omega
theorem set_class (l : List Span) (i : Nat) (v : Int) (j : List AV) (h : i < l.length) : (encSpans l ++ j).set (i * 3 + 2) (.i .i64 v) = encSpans (l.set i (l[i].1, l[i].2.1, v)) ++ j := by
  have hl := encSpans_len l
  obtain ⟨h1, h2, h3⟩ := encSpans_get l i l[i] (List.getElem?_eq_getElem h)
  rw [List.set_append_left _ _ (by omega)]
  congr 1
  rcases encSpans_set l i (l[i].1, l[i].2.1, v) with h4 | h4
  · rw [h4, set_self _ (i * 3) _ h1, set_self _ (i * 3 + 1) _ h2]
  · omega
theorem get_app {l j : List AV} {k : Nat} {c : AV} (h : l[k]? = some c) : (l ++ j)[k]? = some c := by
  rw [List.getElem?_append_left (List.getElem?_eq_some_iff.1 h).1]
  exact h
theorem take_app {l j : List AV} {n : Nat} (h : l.length = n) : List.take n (l ++ j) = l := List.take_left' h

/-- How many changes there are, of the first i classes; one more at the begin. -/
def chg (M : List Int) (i : Nat) : Nat := if i = 0 then min M.length 1 else (refL M i).length
theorem chg_len (M : List Int) : chg M M.length = (spansFrom M 0).length := by
  rw [← refL_all]
  unfold chg
  split
  · rename_i h
    have : M = [] := List.eq_nil_of_length_eq_zero h
    subst this
    rfl
  · rfl
theorem chg_succ (M : List Int) (i : Nat) (h : i < M.length) : chg M (i + 1) = chg M i + if 0 < i ∧ M[i] ≠ M[i - 1] then 1 else 0 := by
  have e := refL_len M i
  have g1 : M.getD i 0 = M[i] := by simp [h]
  have g2 : M.getD (i - 1) 0 = M[i - 1] := by simp [show i - 1 < M.length by omega]
  rw [g1, g2] at e
  by_cases h0 : i = 0
  · subst h0
    simp [chg, e, refL]
    omega
  · have : chg M i = (refL M i).length := by simp [chg, h0]
    rw [this]
    have : chg M (i + 1) = (refL M (i + 1)).length := by simp [chg]
    rw [this, e]
    congr 1
    have hp : 0 < i := by omega
    simp [h0, hp]
theorem chg_le (M : List Int) : ∀ i, chg M i ≤ M.length + i := fun i => by
  induction i with
  | zero => simp [chg]; omega
  | succ i ih =>
    unfold chg at *
    rw [if_neg (by omega), refL_len]
    by_cases h : i = 0
    · subst h; simp [refL]
    · rw [if_neg h] at ih
      split <;> omega

set_option maxRecDepth 10000
set_option maxHeartbeats 1000000
theorem chartBack (c : List UInt8) (σ : AState) : ACalls Try.prog G0 5 [.sl .no c.length (encB c)] σ (retIs (.b true) σ) := by
  refine ACalls.bnd fun hbnd => ?_
  have hc : c.length ≤ 281474976710656 := hbnd (.sl .no c.length (encB c)) (by simp)
  refine ACalls.bodyZ G0_pl Try.func5 rfl (by rfl) (by decide) ?_; simp only [Try.ntmps5, List.replicate, go_sem, Nat.reduceAdd, Nat.reduceSub]
  repeat' (first
    | ((first | ((with_reducible refine awOps_move ?_ ?_); decide +kernel) | ((with_reducible refine awOps_load ?_ ?_); decide +kernel) | ((with_reducible refine awOps_one ?_ ?_); decide +kernel) | (with_reducible refine awOps_feed ?_) | ((with_reducible refine awOps_g ?_); refine awOps_guard rfl ?_) | ((with_reducible refine awT_one ?_ ?_); decide +kernel) | ((with_reducible refine awT_call ?_ ?_); decide +kernel) | ((with_reducible refine awT_g ?_); refine awT_guard rfl ?_) | ((with_reducible refine awU_one ?_ ?_); decide +kernel) | ((with_reducible refine awU_call ?_ ?_); decide +kernel) | ((with_reducible refine awU_g ?_); refine awU_guard rfl ?_) | (with_reducible refine AWp.condH ?_)); intro K Q' hK hQ; simp only [go_sem, Nat.reduceAdd, Nat.reduceSub, Nat.reduceMul, Nat.reduceDiv, Nat.reduceMod, Nat.reduceLT, Nat.reduceLeDiff, Nat.reduceEqDiff, Nat.reduceBEq, Nat.reduceBNe, reduceCtorEq, Int.reduceLE, Int.reduceLT, Int.reduceNeg, Int.reduceToNat, Int.reduceAdd, Int.reduceSub, Int.reduceMul, Int.reduceBEq, Int.reduceBNe, Int.reduceEq]; subst hK hQ)
    | ((with_reducible refine AWp.drawT Try.follows ?_ ?_); decide +kernel) | ((with_reducible refine AWp.drawU Try.follows ?_ ?_); decide +kernel)
    | with_reducible (first | refine awOps_end ?_ | refine awT_end ?_ | refine awU_end ?_ | refine nThen ?_ | refine putKn ?_ | refine nSuf ?_ | refine rThen ?_ | refine eThen ?_ | refine nBlock ?_ | refine eBlock ?_ | refine fBlock (by decide) ?_ | refine rBlock ?_ | refine nScope ?_ | refine eScope ?_ | refine rScope ?_ | refine AWp.seq ?_ | refine AWp.block ?_ | refine AWp.scope ?_ | refine AWp.text ?_ | refine AWp.skip ?_ | refine AWp.exit ?_ | refine AWp.ret ?_ | refine AWp.label ?_ | refine brK_T (by assumption) ?_ | refine brK_F (by assumption) ?_ | refine brK_mk (fun hb => ?_) (fun hb => ?_) | refine And.intro (by first | assumption | omega | simp only [go_sem, reduceCtorEq]) ?_)
    | ((with_reducible (first | refine rBodyZ ?_ | refine nBodyZ ?_ | refine rBodyQ ?_ | refine nBodyQ ?_)); simp only [go_sem, Nat.reduceAdd, Nat.reduceSub, Nat.reduceMul, Nat.reduceDiv, Nat.reduceMod, Nat.reduceLT, Nat.reduceLeDiff, Nat.reduceEqDiff, Nat.reduceBEq, Nat.reduceBNe, reduceCtorEq, Int.reduceLE, Int.reduceLT, Int.reduceNeg, Int.reduceToNat, Int.reduceAdd, Int.reduceSub, Int.reduceMul, Int.reduceBEq, Int.reduceBNe, Int.reduceEq]))
  refine AWp.loop (α := Nat) (fun k => k ≤ c.length ∧ k ≤ 100) (fun k => 100 - k) (fun k => mkE 76 [(0, .sl .no c.length (encB c)), (3, oV 1 k (encInts ((c.take k).map cls))), (4, .i .i64 k)]) (fun _ => σ) 0 ⟨by omega, by omega⟩ ?_ ?_ ?_
  · simp only [Int.natCast_zero, oV0, go_sem, Nat.reduceAdd, Nat.reduceSub, Nat.reduceMul, Nat.reduceDiv, Nat.reduceMod, Nat.reduceLT, Nat.reduceLeDiff, Nat.reduceEqDiff, Nat.reduceBEq, Nat.reduceBNe, reduceCtorEq, Int.reduceLE, Int.reduceLT, Int.reduceNeg, Int.reduceToNat, Int.reduceAdd, Int.reduceSub, Int.reduceMul, Int.reduceBEq, Int.reduceBNe, Int.reduceEq]
  · exact WeakS.refl _
  rintro k ⟨hk, hk2⟩
  simp only [go_sem, Nat.reduceAdd, Nat.reduceSub, Nat.reduceMul, Nat.reduceDiv, Nat.reduceMod, Nat.reduceLT, Nat.reduceLeDiff, Nat.reduceEqDiff, Nat.reduceBEq, Nat.reduceBNe, reduceCtorEq, Int.reduceLE, Int.reduceLT, Int.reduceNeg, Int.reduceToNat, Int.reduceAdd, Int.reduceSub, Int.reduceMul, Int.reduceBEq, Int.reduceBNe, Int.reduceEq]
  have hm : ((c.take k).map cls).length = k := by simp; omega
  by_cases hlt : k < c.length ∧ k < 100
  · obtain ⟨hlt, h100⟩ := hlt
    have hd1 : decide ((k : Int) < (c.length : Int)) = true := by simp; omega
    have hd2 : decide ((k : Int) < 100) = true := by simp; omega
    have hw := wrapS (k := k) (by omega)
    have hgk := encB_get c k hlt
    have hr : (0 : Int) ≤ (k : Int) ∧ (k : Int) < (c.length : Int) := by omega
    have hnext : (c.take (k + 1)).map cls = (c.take k).map cls ++ [cls c[k]] := by rw [List.take_add_one, List.getElem?_eq_getElem hlt, List.map_append]; rfl
    have hel : (encInts ((c.take k).map cls)).length = k := by rw [encInts_len, hm]
    have hp : (oV 1 k (encInts ((c.take k).map cls))).pl = .sl .no k (encInts ((c.take k).map cls)) := oV_pl (by rw [hel]; omega)
    repeat' (first
    | ((first | ((with_reducible refine awOps_move ?_ ?_); decide +kernel) | ((with_reducible refine awOps_load ?_ ?_); decide +kernel) | ((with_reducible refine awOps_one ?_ ?_); decide +kernel) | (with_reducible refine awOps_feed ?_) | ((with_reducible refine awOps_g ?_); refine awOps_guard rfl ?_) | ((with_reducible refine awT_one ?_ ?_); decide +kernel) | ((with_reducible refine awT_call ?_ ?_); decide +kernel) | ((with_reducible refine awT_g ?_); refine awT_guard rfl ?_) | ((with_reducible refine awU_one ?_ ?_); decide +kernel) | ((with_reducible refine awU_call ?_ ?_); decide +kernel) | ((with_reducible refine awU_g ?_); refine awU_guard rfl ?_) | (with_reducible refine AWp.condH ?_)); intro K Q' hK hQ; simp only [hd1, hd2, hw, hr, hgk, hp, go_sem, Nat.reduceAdd, Nat.reduceSub, Nat.reduceMul, Nat.reduceDiv, Nat.reduceMod, Nat.reduceLT, Nat.reduceLeDiff, Nat.reduceEqDiff, Nat.reduceBEq, Nat.reduceBNe, reduceCtorEq, Int.reduceLE, Int.reduceLT, Int.reduceNeg, Int.reduceToNat, Int.reduceAdd, Int.reduceSub, Int.reduceMul, Int.reduceBEq, Int.reduceBNe, Int.reduceEq]; subst hK hQ)
    | ((with_reducible refine AWp.drawT Try.follows ?_ ?_); decide +kernel) | ((with_reducible refine AWp.drawU Try.follows ?_ ?_); decide +kernel)
    | with_reducible (first | refine awOps_end ?_ | refine awT_end ?_ | refine awU_end ?_ | refine nThen ?_ | refine putKn ?_ | refine nSuf ?_ | refine rThen ?_ | refine eThen ?_ | refine nBlock ?_ | refine eBlock ?_ | refine fBlock (by decide) ?_ | refine rBlock ?_ | refine nScope ?_ | refine eScope ?_ | refine rScope ?_ | refine AWp.seq ?_ | refine AWp.block ?_ | refine AWp.scope ?_ | refine AWp.text ?_ | refine AWp.skip ?_ | refine AWp.exit ?_ | refine AWp.ret ?_ | refine AWp.label ?_ | refine brK_T (by assumption) ?_ | refine brK_F (by assumption) ?_ | refine brK_mk (fun hb => ?_) (fun hb => ?_) | refine And.intro (by first | assumption | omega | simp only [go_sem, reduceCtorEq]) ?_)
    | ((with_reducible (first | refine rBodyZ ?_ | refine nBodyZ ?_ | refine rBodyQ ?_ | refine nBodyQ ?_)); simp only [hd1, hd2, hw, hr, hgk, hp, go_sem, Nat.reduceAdd, Nat.reduceSub, Nat.reduceMul, Nat.reduceDiv, Nat.reduceMod, Nat.reduceLT, Nat.reduceLeDiff, Nat.reduceEqDiff, Nat.reduceBEq, Nat.reduceBNe, reduceCtorEq, Int.reduceLE, Int.reduceLT, Int.reduceNeg, Int.reduceToNat, Int.reduceAdd, Int.reduceSub, Int.reduceMul, Int.reduceBEq, Int.reduceBNe, Int.reduceEq]))
    refine appC.o ?_
    simp only [aappendO, asrc, go_sem, Nat.reduceAdd, Nat.reduceSub, Nat.reduceMul, Nat.reduceDiv, Nat.reduceMod, Nat.reduceLT, Nat.reduceLeDiff, Nat.reduceEqDiff, Nat.reduceBEq, Nat.reduceBNe, reduceCtorEq, Int.reduceLE, Int.reduceLT, Int.reduceNeg, Int.reduceToNat, Int.reduceAdd, Int.reduceSub, Int.reduceMul, Int.reduceBEq, Int.reduceBNe, Int.reduceEq]
    refine appO_oV (by rw [hel]; omega) (by omega) (by simp) (by rfl) (by omega) (by omega) (by omega) (by rfl) ?_
    repeat' (first
    | ((first | ((with_reducible refine awOps_move ?_ ?_); decide +kernel) | ((with_reducible refine awOps_load ?_ ?_); decide +kernel) | ((with_reducible refine awOps_one ?_ ?_); decide +kernel) | (with_reducible refine awOps_feed ?_) | ((with_reducible refine awOps_g ?_); refine awOps_guard rfl ?_) | ((with_reducible refine awT_one ?_ ?_); decide +kernel) | ((with_reducible refine awT_call ?_ ?_); decide +kernel) | ((with_reducible refine awT_g ?_); refine awT_guard rfl ?_) | ((with_reducible refine awU_one ?_ ?_); decide +kernel) | ((with_reducible refine awU_call ?_ ?_); decide +kernel) | ((with_reducible refine awU_g ?_); refine awU_guard rfl ?_) | (with_reducible refine AWp.condH ?_)); intro K Q' hK hQ; simp only [hw, hp, go_sem, Nat.reduceAdd, Nat.reduceSub, Nat.reduceMul, Nat.reduceDiv, Nat.reduceMod, Nat.reduceLT, Nat.reduceLeDiff, Nat.reduceEqDiff, Nat.reduceBEq, Nat.reduceBNe, reduceCtorEq, Int.reduceLE, Int.reduceLT, Int.reduceNeg, Int.reduceToNat, Int.reduceAdd, Int.reduceSub, Int.reduceMul, Int.reduceBEq, Int.reduceBNe, Int.reduceEq]; subst hK hQ)
    | ((with_reducible refine AWp.drawT Try.follows ?_ ?_); decide +kernel) | ((with_reducible refine AWp.drawU Try.follows ?_ ?_); decide +kernel)
    | with_reducible (first | refine awOps_end ?_ | refine awT_end ?_ | refine awU_end ?_ | refine nThen ?_ | refine putKn ?_ | refine nSuf ?_ | refine rThen ?_ | refine eThen ?_ | refine nBlock ?_ | refine eBlock ?_ | refine fBlock (by decide) ?_ | refine rBlock ?_ | refine nScope ?_ | refine eScope ?_ | refine rScope ?_ | refine AWp.seq ?_ | refine AWp.block ?_ | refine AWp.scope ?_ | refine AWp.text ?_ | refine AWp.skip ?_ | refine AWp.exit ?_ | refine AWp.ret ?_ | refine AWp.label ?_ | refine brK_T (by assumption) ?_ | refine brK_F (by assumption) ?_ | refine brK_mk (fun hb => ?_) (fun hb => ?_) | refine And.intro (by first | assumption | omega | simp only [go_sem, reduceCtorEq]) ?_)
    | ((with_reducible (first | refine rBodyZ ?_ | refine nBodyZ ?_ | refine rBodyQ ?_ | refine nBodyQ ?_)); simp only [hw, hp, go_sem, Nat.reduceAdd, Nat.reduceSub, Nat.reduceMul, Nat.reduceDiv, Nat.reduceMod, Nat.reduceLT, Nat.reduceLeDiff, Nat.reduceEqDiff, Nat.reduceBEq, Nat.reduceBNe, reduceCtorEq, Int.reduceLE, Int.reduceLT, Int.reduceNeg, Int.reduceToNat, Int.reduceAdd, Int.reduceSub, Int.reduceMul, Int.reduceBEq, Int.reduceBNe, Int.reduceEq]))
    refine ⟨k + 1, ⟨by omega, by omega⟩, by simp only; omega, ?_, WeakS.refl _⟩
    simp only [hnext, encInts_app]
    simp only [hw, cls, encInts, go_sem, Nat.reduceAdd, Nat.reduceSub, Nat.reduceMul, Nat.reduceDiv, Nat.reduceMod, Nat.reduceLT, Nat.reduceLeDiff, Nat.reduceEqDiff, Nat.reduceBEq, Nat.reduceBNe, reduceCtorEq, Int.reduceLE, Int.reduceLT, Int.reduceNeg, Int.reduceToNat, Int.reduceAdd, Int.reduceSub, Int.reduceMul, Int.reduceBEq, Int.reduceBNe, Int.reduceEq]
  · have hM : c.take k = c.take 100 := by
      rcases Nat.lt_or_ge k c.length with h | h
      · have : k = 100 := by omega
        rw [this]
      · rw [List.take_of_length_le (by omega), List.take_of_length_le (by omega)]
    have hcl := clsM (c.take k)
    have hel : (encInts ((c.take k).map cls)).length = k := by rw [encInts_len, hm]
    have hp : (oV 1 k (encInts ((c.take k).map cls))).pl = .sl .no k (encInts ((c.take k).map cls)) := oV_pl (by rw [hel]; omega)
    have hcov := spans_covers _ hcl
    generalize (c.take k).map cls = M at *
    have hx : (decide ((k : Int) < (c.length : Int)) = false ∧ decide ((100 : Int) < 100) = false) ∨ (decide ((k : Int) < (c.length : Int)) = true ∧ decide ((k : Int) < 100) = false) := by simp; omega
    subst hm
    have hwm : ∀ i, i < M.length → IntKind.i64.wrap ((i : Int) + 1) = ((i + 1 : Nat) : Int) := fun i hi => wrapS (by omega)
    rcases hx with ⟨hd1, hd2⟩ | ⟨hd1, hd2⟩
    all_goals
      repeat' (first
    | ((first | ((with_reducible refine awOps_move ?_ ?_); decide +kernel) | ((with_reducible refine awOps_load ?_ ?_); decide +kernel) | ((with_reducible refine awOps_one ?_ ?_); decide +kernel) | (with_reducible refine awOps_feed ?_) | ((with_reducible refine awOps_g ?_); refine awOps_guard rfl ?_) | ((with_reducible refine awT_one ?_ ?_); decide +kernel) | ((with_reducible refine awT_call ?_ ?_); decide +kernel) | ((with_reducible refine awT_g ?_); refine awT_guard rfl ?_) | ((with_reducible refine awU_one ?_ ?_); decide +kernel) | ((with_reducible refine awU_call ?_ ?_); decide +kernel) | ((with_reducible refine awU_g ?_); refine awU_guard rfl ?_) | (with_reducible refine AWp.condH ?_)); intro K Q' hK hQ; simp only [hd1, hd2, hp, go_sem, Nat.reduceAdd, Nat.reduceSub, Nat.reduceMul, Nat.reduceDiv, Nat.reduceMod, Nat.reduceLT, Nat.reduceLeDiff, Nat.reduceEqDiff, Nat.reduceBEq, Nat.reduceBNe, reduceCtorEq, Int.reduceLE, Int.reduceLT, Int.reduceNeg, Int.reduceToNat, Int.reduceAdd, Int.reduceSub, Int.reduceMul, Int.reduceBEq, Int.reduceBNe, Int.reduceEq]; subst hK hQ)
    | ((with_reducible refine AWp.drawT Try.follows ?_ ?_); decide +kernel) | ((with_reducible refine AWp.drawU Try.follows ?_ ?_); decide +kernel)
    | with_reducible (first | refine awOps_end ?_ | refine awT_end ?_ | refine awU_end ?_ | refine nThen ?_ | refine putKn ?_ | refine nSuf ?_ | refine rThen ?_ | refine eThen ?_ | refine nBlock ?_ | refine eBlock ?_ | refine fBlock (by decide) ?_ | refine rBlock ?_ | refine nScope ?_ | refine eScope ?_ | refine rScope ?_ | refine AWp.seq ?_ | refine AWp.block ?_ | refine AWp.scope ?_ | refine AWp.text ?_ | refine AWp.skip ?_ | refine AWp.exit ?_ | refine AWp.ret ?_ | refine AWp.label ?_ | refine brK_T (by assumption) ?_ | refine brK_F (by assumption) ?_ | refine brK_mk (fun hb => ?_) (fun hb => ?_) | refine And.intro (by first | assumption | omega | simp only [go_sem, reduceCtorEq]) ?_)
    | ((with_reducible (first | refine rBodyZ ?_ | refine nBodyZ ?_ | refine rBodyQ ?_ | refine nBodyQ ?_)); simp only [hd1, hd2, hp, go_sem, Nat.reduceAdd, Nat.reduceSub, Nat.reduceMul, Nat.reduceDiv, Nat.reduceMod, Nat.reduceLT, Nat.reduceLeDiff, Nat.reduceEqDiff, Nat.reduceBEq, Nat.reduceBNe, reduceCtorEq, Int.reduceLE, Int.reduceLT, Int.reduceNeg, Int.reduceToNat, Int.reduceAdd, Int.reduceSub, Int.reduceMul, Int.reduceBEq, Int.reduceBNe, Int.reduceEq]))
      refine ACalls.use (spans M (by omega) σ) ?_
      have hmin : (if (1 : Int) < (M.length : Int) then (1 : Int) else (M.length : Int)) = ((chg M 0 : Nat) : Int) := by simp only [chg, if_true]; split <;> omega
      repeat' (first
    | ((first | ((with_reducible refine awOps_move ?_ ?_); decide +kernel) | ((with_reducible refine awOps_load ?_ ?_); decide +kernel) | ((with_reducible refine awOps_one ?_ ?_); decide +kernel) | (with_reducible refine awOps_feed ?_) | ((with_reducible refine awOps_g ?_); refine awOps_guard rfl ?_) | ((with_reducible refine awT_one ?_ ?_); decide +kernel) | ((with_reducible refine awT_call ?_ ?_); decide +kernel) | ((with_reducible refine awT_g ?_); refine awT_guard rfl ?_) | ((with_reducible refine awU_one ?_ ?_); decide +kernel) | ((with_reducible refine awU_call ?_ ?_); decide +kernel) | ((with_reducible refine awU_g ?_); refine awU_guard rfl ?_) | (with_reducible refine AWp.condH ?_)); intro K Q' hK hQ; simp only [hp, hmin, go_sem, Nat.reduceAdd, Nat.reduceSub, Nat.reduceMul, Nat.reduceDiv, Nat.reduceMod, Nat.reduceLT, Nat.reduceLeDiff, Nat.reduceEqDiff, Nat.reduceBEq, Nat.reduceBNe, reduceCtorEq, Int.reduceLE, Int.reduceLT, Int.reduceNeg, Int.reduceToNat, Int.reduceAdd, Int.reduceSub, Int.reduceMul, Int.reduceBEq, Int.reduceBNe, Int.reduceEq]; subst hK hQ)
    | ((with_reducible refine AWp.drawT Try.follows ?_ ?_); decide +kernel) | ((with_reducible refine AWp.drawU Try.follows ?_ ?_); decide +kernel)
    | with_reducible (first | refine awOps_end ?_ | refine awT_end ?_ | refine awU_end ?_ | refine nThen ?_ | refine putKn ?_ | refine nSuf ?_ | refine rThen ?_ | refine eThen ?_ | refine nBlock ?_ | refine eBlock ?_ | refine fBlock (by decide) ?_ | refine rBlock ?_ | refine nScope ?_ | refine eScope ?_ | refine rScope ?_ | refine AWp.seq ?_ | refine AWp.block ?_ | refine AWp.scope ?_ | refine AWp.text ?_ | refine AWp.skip ?_ | refine AWp.exit ?_ | refine AWp.ret ?_ | refine AWp.label ?_ | refine brK_T (by assumption) ?_ | refine brK_F (by assumption) ?_ | refine brK_mk (fun hb => ?_) (fun hb => ?_) | refine And.intro (by first | assumption | omega | simp only [go_sem, reduceCtorEq]) ?_)
    | ((with_reducible (first | refine rBodyZ ?_ | refine nBodyZ ?_ | refine rBodyQ ?_ | refine nBodyQ ?_)); simp only [hp, hmin, go_sem, Nat.reduceAdd, Nat.reduceSub, Nat.reduceMul, Nat.reduceDiv, Nat.reduceMod, Nat.reduceLT, Nat.reduceLeDiff, Nat.reduceEqDiff, Nat.reduceBEq, Nat.reduceBNe, reduceCtorEq, Int.reduceLE, Int.reduceLT, Int.reduceNeg, Int.reduceToNat, Int.reduceAdd, Int.reduceSub, Int.reduceMul, Int.reduceBEq, Int.reduceBNe, Int.reduceEq]))
      refine AWp.loop (α := Nat) (fun i => i ≤ M.length) (fun i => M.length - i) (fun i => mkE 76 [(3, .sl .no M.length (encInts M)), (5, .sl .no (spansFrom M 0).length (encSpans (spansFrom M 0))), (6, .i .i64 (chg M i)), (7, .i .i64 i)]) (fun _ => σ) 0 (Nat.zero_le _) ?_ ?_ ?_
      · simp only [hp, Int.natCast_zero, go_sem, Nat.reduceAdd, Nat.reduceSub, Nat.reduceMul, Nat.reduceDiv, Nat.reduceMod, Nat.reduceLT, Nat.reduceLeDiff, Nat.reduceEqDiff, Nat.reduceBEq, Nat.reduceBNe, reduceCtorEq, Int.reduceLE, Int.reduceLT, Int.reduceNeg, Int.reduceToNat, Int.reduceAdd, Int.reduceSub, Int.reduceMul, Int.reduceBEq, Int.reduceBNe, Int.reduceEq]
      · exact WeakS.refl _
      rintro i hi
      simp only [go_sem, Nat.reduceAdd, Nat.reduceSub, Nat.reduceMul, Nat.reduceDiv, Nat.reduceMod, Nat.reduceLT, Nat.reduceLeDiff, Nat.reduceEqDiff, Nat.reduceBEq, Nat.reduceBNe, reduceCtorEq, Int.reduceLE, Int.reduceLT, Int.reduceNeg, Int.reduceToNat, Int.reduceAdd, Int.reduceSub, Int.reduceMul, Int.reduceBEq, Int.reduceBNe, Int.reduceEq]
      have hSl := spansFrom_len M _ 0 (Nat.le_refl _)
      by_cases hil : i < M.length
      · have hdi : decide ((i : Int) < (M.length : Int)) = true := by simp; omega
        have hw := wrapS (k := i) (by omega)
        have hgi := encInts_get M i hil
        have hri : (0 : Int) ≤ (i : Int) ∧ (i : Int) < (M.length : Int) := by omega
        have hcc : ∀ s, ACalls Try.prog G0 14 [.sl .no (spansFrom M 0).length (encSpans (spansFrom M 0)), .i .i64 i] s (retIs (.i .i64 M[i]) s) := fun s => by
          have := classOf (spansFrom M 0) i s (by omega)
          rwa [class_spans M M.length 0 i (by omega) (by omega) hil] at this
        have hcs := chg_succ M i hil
        have hcl' := chg_le M i
        by_cases h0 : i = 0
        · subst h0
          have hcs' : chg M (0 + 1) = chg M 0 := by rw [hcs]; simp
          repeat' (first
    | ((first | ((with_reducible refine awOps_move ?_ ?_); decide +kernel) | ((with_reducible refine awOps_load ?_ ?_); decide +kernel) | ((with_reducible refine awOps_one ?_ ?_); decide +kernel) | (with_reducible refine awOps_feed ?_) | ((with_reducible refine awOps_g ?_); refine awOps_guard rfl ?_) | ((with_reducible refine awT_one ?_ ?_); decide +kernel) | ((with_reducible refine awT_call ?_ ?_); decide +kernel) | ((with_reducible refine awT_g ?_); refine awT_guard rfl ?_) | ((with_reducible refine awU_one ?_ ?_); decide +kernel) | ((with_reducible refine awU_call ?_ ?_); decide +kernel) | ((with_reducible refine awU_g ?_); refine awU_guard rfl ?_) | (with_reducible refine AWp.condH ?_)); intro K Q' hK hQ; simp only [hdi, hgi, hri, go_sem, Nat.reduceAdd, Nat.reduceSub, Nat.reduceMul, Nat.reduceDiv, Nat.reduceMod, Nat.reduceLT, Nat.reduceLeDiff, Nat.reduceEqDiff, Nat.reduceBEq, Nat.reduceBNe, reduceCtorEq, Int.reduceLE, Int.reduceLT, Int.reduceNeg, Int.reduceToNat, Int.reduceAdd, Int.reduceSub, Int.reduceMul, Int.reduceBEq, Int.reduceBNe, Int.reduceEq]; subst hK hQ)
    | ((with_reducible refine AWp.drawT Try.follows ?_ ?_); decide +kernel) | ((with_reducible refine AWp.drawU Try.follows ?_ ?_); decide +kernel)
    | with_reducible (first | refine awOps_end ?_ | refine awT_end ?_ | refine awU_end ?_ | refine nThen ?_ | refine putKn ?_ | refine nSuf ?_ | refine rThen ?_ | refine eThen ?_ | refine nBlock ?_ | refine eBlock ?_ | refine fBlock (by decide) ?_ | refine rBlock ?_ | refine nScope ?_ | refine eScope ?_ | refine rScope ?_ | refine AWp.seq ?_ | refine AWp.block ?_ | refine AWp.scope ?_ | refine AWp.text ?_ | refine AWp.skip ?_ | refine AWp.exit ?_ | refine AWp.ret ?_ | refine AWp.label ?_ | refine brK_T (by assumption) ?_ | refine brK_F (by assumption) ?_ | refine brK_mk (fun hb => ?_) (fun hb => ?_) | refine And.intro (by first | assumption | omega | simp only [go_sem, reduceCtorEq]) ?_)
    | ((with_reducible (first | refine rBodyZ ?_ | refine nBodyZ ?_ | refine rBodyQ ?_ | refine nBodyQ ?_)); simp only [hdi, hgi, hri, go_sem, Nat.reduceAdd, Nat.reduceSub, Nat.reduceMul, Nat.reduceDiv, Nat.reduceMod, Nat.reduceLT, Nat.reduceLeDiff, Nat.reduceEqDiff, Nat.reduceBEq, Nat.reduceBNe, reduceCtorEq, Int.reduceLE, Int.reduceLT, Int.reduceNeg, Int.reduceToNat, Int.reduceAdd, Int.reduceSub, Int.reduceMul, Int.reduceBEq, Int.reduceBNe, Int.reduceEq]))
          refine ACalls.useU hcc ?_
          repeat' (first
    | ((first | ((with_reducible refine awOps_move ?_ ?_); decide +kernel) | ((with_reducible refine awOps_load ?_ ?_); decide +kernel) | ((with_reducible refine awOps_one ?_ ?_); decide +kernel) | (with_reducible refine awOps_feed ?_) | ((with_reducible refine awOps_g ?_); refine awOps_guard rfl ?_) | ((with_reducible refine awT_one ?_ ?_); decide +kernel) | ((with_reducible refine awT_call ?_ ?_); decide +kernel) | ((with_reducible refine awT_g ?_); refine awT_guard rfl ?_) | ((with_reducible refine awU_one ?_ ?_); decide +kernel) | ((with_reducible refine awU_call ?_ ?_); decide +kernel) | ((with_reducible refine awU_g ?_); refine awU_guard rfl ?_) | (with_reducible refine AWp.condH ?_)); intro K Q' hK hQ; simp only [hgi, hri, hw, go_sem, Nat.reduceAdd, Nat.reduceSub, Nat.reduceMul, Nat.reduceDiv, Nat.reduceMod, Nat.reduceLT, Nat.reduceLeDiff, Nat.reduceEqDiff, Nat.reduceBEq, Nat.reduceBNe, reduceCtorEq, Int.reduceLE, Int.reduceLT, Int.reduceNeg, Int.reduceToNat, Int.reduceAdd, Int.reduceSub, Int.reduceMul, Int.reduceBEq, Int.reduceBNe, Int.reduceEq]; subst hK hQ)
    | ((with_reducible refine AWp.drawT Try.follows ?_ ?_); decide +kernel) | ((with_reducible refine AWp.drawU Try.follows ?_ ?_); decide +kernel)
    | with_reducible (first | refine awOps_end ?_ | refine awT_end ?_ | refine awU_end ?_ | refine nThen ?_ | refine putKn ?_ | refine nSuf ?_ | refine rThen ?_ | refine eThen ?_ | refine nBlock ?_ | refine eBlock ?_ | refine fBlock (by decide) ?_ | refine rBlock ?_ | refine nScope ?_ | refine eScope ?_ | refine rScope ?_ | refine AWp.seq ?_ | refine AWp.block ?_ | refine AWp.scope ?_ | refine AWp.text ?_ | refine AWp.skip ?_ | refine AWp.exit ?_ | refine AWp.ret ?_ | refine AWp.label ?_ | refine brK_T (by assumption) ?_ | refine brK_F (by assumption) ?_ | refine brK_mk (fun hb => ?_) (fun hb => ?_) | refine And.intro (by first | assumption | omega | simp only [go_sem, reduceCtorEq]) ?_)
    | ((with_reducible (first | refine rBodyZ ?_ | refine nBodyZ ?_ | refine rBodyQ ?_ | refine nBodyQ ?_)); simp only [hgi, hri, hw, go_sem, Nat.reduceAdd, Nat.reduceSub, Nat.reduceMul, Nat.reduceDiv, Nat.reduceMod, Nat.reduceLT, Nat.reduceLeDiff, Nat.reduceEqDiff, Nat.reduceBEq, Nat.reduceBNe, reduceCtorEq, Int.reduceLE, Int.reduceLT, Int.reduceNeg, Int.reduceToNat, Int.reduceAdd, Int.reduceSub, Int.reduceMul, Int.reduceBEq, Int.reduceBNe, Int.reduceEq]))
          all_goals first
            | (simp at hb; done)
            | exact ⟨0 + 1, by omega, by simp only; omega, by simp only [hcs', hw, go_sem, Nat.reduceAdd, Nat.reduceSub, Nat.reduceMul, Nat.reduceDiv, Nat.reduceMod, Nat.reduceLT, Nat.reduceLeDiff, Nat.reduceEqDiff, Nat.reduceBEq, Nat.reduceBNe, reduceCtorEq, Int.reduceLE, Int.reduceLT, Int.reduceNeg, Int.reduceToNat, Int.reduceAdd, Int.reduceSub, Int.reduceMul, Int.reduceBEq, Int.reduceBNe, Int.reduceEq], WeakS.refl _⟩
        · have hg1 := encInts_get M (i - 1) (by omega)
          have hr1 : (0 : Int) ≤ ((i - 1 : Nat) : Int) ∧ ((i - 1 : Nat) : Int) < (M.length : Int) := by omega
          have hw1 : IntKind.i64.wrap ((i : Int) - 1) = ((i - 1 : Nat) : Int) := by rw [wrap_i64 (by omega) (by omega)]; omega
          have hpos : decide ((0 : Int) < (i : Int)) = true := by simp; omega
          have hwc : IntKind.i64.wrap ((chg M i : Int) + 1) = ((chg M i + 1 : Nat) : Int) := wrapS (by omega)
          repeat' (first
    | ((first | ((with_reducible refine awOps_move ?_ ?_); decide +kernel) | ((with_reducible refine awOps_load ?_ ?_); decide +kernel) | ((with_reducible refine awOps_one ?_ ?_); decide +kernel) | (with_reducible refine awOps_feed ?_) | ((with_reducible refine awOps_g ?_); refine awOps_guard rfl ?_) | ((with_reducible refine awT_one ?_ ?_); decide +kernel) | ((with_reducible refine awT_call ?_ ?_); decide +kernel) | ((with_reducible refine awT_g ?_); refine awT_guard rfl ?_) | ((with_reducible refine awU_one ?_ ?_); decide +kernel) | ((with_reducible refine awU_call ?_ ?_); decide +kernel) | ((with_reducible refine awU_g ?_); refine awU_guard rfl ?_) | (with_reducible refine AWp.condH ?_)); intro K Q' hK hQ; simp only [hdi, hgi, hri, go_sem, Nat.reduceAdd, Nat.reduceSub, Nat.reduceMul, Nat.reduceDiv, Nat.reduceMod, Nat.reduceLT, Nat.reduceLeDiff, Nat.reduceEqDiff, Nat.reduceBEq, Nat.reduceBNe, reduceCtorEq, Int.reduceLE, Int.reduceLT, Int.reduceNeg, Int.reduceToNat, Int.reduceAdd, Int.reduceSub, Int.reduceMul, Int.reduceBEq, Int.reduceBNe, Int.reduceEq]; subst hK hQ)
    | ((with_reducible refine AWp.drawT Try.follows ?_ ?_); decide +kernel) | ((with_reducible refine AWp.drawU Try.follows ?_ ?_); decide +kernel)
    | with_reducible (first | refine awOps_end ?_ | refine awT_end ?_ | refine awU_end ?_ | refine nThen ?_ | refine putKn ?_ | refine nSuf ?_ | refine rThen ?_ | refine eThen ?_ | refine nBlock ?_ | refine eBlock ?_ | refine fBlock (by decide) ?_ | refine rBlock ?_ | refine nScope ?_ | refine eScope ?_ | refine rScope ?_ | refine AWp.seq ?_ | refine AWp.block ?_ | refine AWp.scope ?_ | refine AWp.text ?_ | refine AWp.skip ?_ | refine AWp.exit ?_ | refine AWp.ret ?_ | refine AWp.label ?_ | refine brK_T (by assumption) ?_ | refine brK_F (by assumption) ?_ | refine brK_mk (fun hb => ?_) (fun hb => ?_) | refine And.intro (by first | assumption | omega | simp only [go_sem, reduceCtorEq]) ?_)
    | ((with_reducible (first | refine rBodyZ ?_ | refine nBodyZ ?_ | refine rBodyQ ?_ | refine nBodyQ ?_)); simp only [hdi, hgi, hri, go_sem, Nat.reduceAdd, Nat.reduceSub, Nat.reduceMul, Nat.reduceDiv, Nat.reduceMod, Nat.reduceLT, Nat.reduceLeDiff, Nat.reduceEqDiff, Nat.reduceBEq, Nat.reduceBNe, reduceCtorEq, Int.reduceLE, Int.reduceLT, Int.reduceNeg, Int.reduceToNat, Int.reduceAdd, Int.reduceSub, Int.reduceMul, Int.reduceBEq, Int.reduceBNe, Int.reduceEq]))
          refine ACalls.useU hcc ?_
          repeat' (first
    | ((first | ((with_reducible refine awOps_move ?_ ?_); decide +kernel) | ((with_reducible refine awOps_load ?_ ?_); decide +kernel) | ((with_reducible refine awOps_one ?_ ?_); decide +kernel) | (with_reducible refine awOps_feed ?_) | ((with_reducible refine awOps_g ?_); refine awOps_guard rfl ?_) | ((with_reducible refine awT_one ?_ ?_); decide +kernel) | ((with_reducible refine awT_call ?_ ?_); decide +kernel) | ((with_reducible refine awT_g ?_); refine awT_guard rfl ?_) | ((with_reducible refine awU_one ?_ ?_); decide +kernel) | ((with_reducible refine awU_call ?_ ?_); decide +kernel) | ((with_reducible refine awU_g ?_); refine awU_guard rfl ?_) | (with_reducible refine AWp.condH ?_)); intro K Q' hK hQ; simp only [hgi, hri, hw, hg1, hr1, hw1, hpos, hwc, go_sem, Nat.reduceAdd, Nat.reduceSub, Nat.reduceMul, Nat.reduceDiv, Nat.reduceMod, Nat.reduceLT, Nat.reduceLeDiff, Nat.reduceEqDiff, Nat.reduceBEq, Nat.reduceBNe, reduceCtorEq, Int.reduceLE, Int.reduceLT, Int.reduceNeg, Int.reduceToNat, Int.reduceAdd, Int.reduceSub, Int.reduceMul, Int.reduceBEq, Int.reduceBNe, Int.reduceEq]; subst hK hQ)
    | ((with_reducible refine AWp.drawT Try.follows ?_ ?_); decide +kernel) | ((with_reducible refine AWp.drawU Try.follows ?_ ?_); decide +kernel)
    | with_reducible (first | refine awOps_end ?_ | refine awT_end ?_ | refine awU_end ?_ | refine nThen ?_ | refine putKn ?_ | refine nSuf ?_ | refine rThen ?_ | refine eThen ?_ | refine nBlock ?_ | refine eBlock ?_ | refine fBlock (by decide) ?_ | refine rBlock ?_ | refine nScope ?_ | refine eScope ?_ | refine rScope ?_ | refine AWp.seq ?_ | refine AWp.block ?_ | refine AWp.scope ?_ | refine AWp.text ?_ | refine AWp.skip ?_ | refine AWp.exit ?_ | refine AWp.ret ?_ | refine AWp.label ?_ | refine brK_T (by assumption) ?_ | refine brK_F (by assumption) ?_ | refine brK_mk (fun hb => ?_) (fun hb => ?_) | refine And.intro (by first | assumption | omega | simp only [go_sem, reduceCtorEq]) ?_)
    | ((with_reducible (first | refine rBodyZ ?_ | refine nBodyZ ?_ | refine rBodyQ ?_ | refine nBodyQ ?_)); simp only [hgi, hri, hw, hg1, hr1, hw1, hpos, hwc, go_sem, Nat.reduceAdd, Nat.reduceSub, Nat.reduceMul, Nat.reduceDiv, Nat.reduceMod, Nat.reduceLT, Nat.reduceLeDiff, Nat.reduceEqDiff, Nat.reduceBEq, Nat.reduceBNe, reduceCtorEq, Int.reduceLE, Int.reduceLT, Int.reduceNeg, Int.reduceToNat, Int.reduceAdd, Int.reduceSub, Int.reduceMul, Int.reduceBEq, Int.reduceBNe, Int.reduceEq]))
          · have hcs' : chg M (i + 1) = chg M i + 1 := by rw [hcs, if_pos ⟨by omega, by simpa using hb⟩]
            exact ⟨i + 1, by omega, by simp only; omega, by simp only [hcs', hw, go_sem, Nat.reduceAdd, Nat.reduceSub, Nat.reduceMul, Nat.reduceDiv, Nat.reduceMod, Nat.reduceLT, Nat.reduceLeDiff, Nat.reduceEqDiff, Nat.reduceBEq, Nat.reduceBNe, reduceCtorEq, Int.reduceLE, Int.reduceLT, Int.reduceNeg, Int.reduceToNat, Int.reduceAdd, Int.reduceSub, Int.reduceMul, Int.reduceBEq, Int.reduceBNe, Int.reduceEq], WeakS.refl _⟩
          · have hcs' : chg M (i + 1) = chg M i := by rw [hcs, if_neg (fun h => by simp at hb; exact h.2 hb)]; rfl
            exact ⟨i + 1, by omega, by simp only; omega, by simp only [hcs', hw, go_sem, Nat.reduceAdd, Nat.reduceSub, Nat.reduceMul, Nat.reduceDiv, Nat.reduceMod, Nat.reduceLT, Nat.reduceLeDiff, Nat.reduceEqDiff, Nat.reduceBEq, Nat.reduceBNe, reduceCtorEq, Int.reduceLE, Int.reduceLT, Int.reduceNeg, Int.reduceToNat, Int.reduceAdd, Int.reduceSub, Int.reduceMul, Int.reduceBEq, Int.reduceBNe, Int.reduceEq], WeakS.refl _⟩
      · have hdi : decide ((i : Int) < (M.length : Int)) = false := by simp; omega
        have hil : i = M.length := by omega
        subst hil
        repeat' (first
    | ((first | ((with_reducible refine awOps_move ?_ ?_); decide +kernel) | ((with_reducible refine awOps_load ?_ ?_); decide +kernel) | ((with_reducible refine awOps_one ?_ ?_); decide +kernel) | (with_reducible refine awOps_feed ?_) | ((with_reducible refine awOps_g ?_); refine awOps_guard rfl ?_) | ((with_reducible refine awT_one ?_ ?_); decide +kernel) | ((with_reducible refine awT_call ?_ ?_); decide +kernel) | ((with_reducible refine awT_g ?_); refine awT_guard rfl ?_) | ((with_reducible refine awU_one ?_ ?_); decide +kernel) | ((with_reducible refine awU_call ?_ ?_); decide +kernel) | ((with_reducible refine awU_g ?_); refine awU_guard rfl ?_) | (with_reducible refine AWp.condH ?_)); intro K Q' hK hQ; simp only [hdi, go_sem, Nat.reduceAdd, Nat.reduceSub, Nat.reduceMul, Nat.reduceDiv, Nat.reduceMod, Nat.reduceLT, Nat.reduceLeDiff, Nat.reduceEqDiff, Nat.reduceBEq, Nat.reduceBNe, reduceCtorEq, Int.reduceLE, Int.reduceLT, Int.reduceNeg, Int.reduceToNat, Int.reduceAdd, Int.reduceSub, Int.reduceMul, Int.reduceBEq, Int.reduceBNe, Int.reduceEq]; subst hK hQ)
    | ((with_reducible refine AWp.drawT Try.follows ?_ ?_); decide +kernel) | ((with_reducible refine AWp.drawU Try.follows ?_ ?_); decide +kernel)
    | with_reducible (first | refine awOps_end ?_ | refine awT_end ?_ | refine awU_end ?_ | refine nThen ?_ | refine putKn ?_ | refine nSuf ?_ | refine rThen ?_ | refine eThen ?_ | refine nBlock ?_ | refine eBlock ?_ | refine fBlock (by decide) ?_ | refine rBlock ?_ | refine nScope ?_ | refine eScope ?_ | refine rScope ?_ | refine AWp.seq ?_ | refine AWp.block ?_ | refine AWp.scope ?_ | refine AWp.text ?_ | refine AWp.skip ?_ | refine AWp.exit ?_ | refine AWp.ret ?_ | refine AWp.label ?_ | refine brK_T (by assumption) ?_ | refine brK_F (by assumption) ?_ | refine brK_mk (fun hb => ?_) (fun hb => ?_) | refine And.intro (by first | assumption | omega | simp only [go_sem, reduceCtorEq]) ?_)
    | ((with_reducible (first | refine rBodyZ ?_ | refine nBodyZ ?_ | refine rBodyQ ?_ | refine nBodyQ ?_)); simp only [hdi, go_sem, Nat.reduceAdd, Nat.reduceSub, Nat.reduceMul, Nat.reduceDiv, Nat.reduceMod, Nat.reduceLT, Nat.reduceLeDiff, Nat.reduceEqDiff, Nat.reduceBEq, Nat.reduceBNe, reduceCtorEq, Int.reduceLE, Int.reduceLT, Int.reduceNeg, Int.reduceToNat, Int.reduceAdd, Int.reduceSub, Int.reduceMul, Int.reduceBEq, Int.reduceBNe, Int.reduceEq]))
        refine ACalls.use (known18 σ) ?_
        repeat' (first
    | ((first | ((with_reducible refine awOps_move ?_ ?_); decide +kernel) | ((with_reducible refine awOps_load ?_ ?_); decide +kernel) | ((with_reducible refine awOps_one ?_ ?_); decide +kernel) | (with_reducible refine awOps_feed ?_) | ((with_reducible refine awOps_g ?_); refine awOps_guard rfl ?_) | ((with_reducible refine awT_one ?_ ?_); decide +kernel) | ((with_reducible refine awT_call ?_ ?_); decide +kernel) | ((with_reducible refine awT_g ?_); refine awT_guard rfl ?_) | ((with_reducible refine awU_one ?_ ?_); decide +kernel) | ((with_reducible refine awU_call ?_ ?_); decide +kernel) | ((with_reducible refine awU_g ?_); refine awU_guard rfl ?_) | (with_reducible refine AWp.condH ?_)); intro K Q' hK hQ; simp only [go_sem, Nat.reduceAdd, Nat.reduceSub, Nat.reduceMul, Nat.reduceDiv, Nat.reduceMod, Nat.reduceLT, Nat.reduceLeDiff, Nat.reduceEqDiff, Nat.reduceBEq, Nat.reduceBNe, reduceCtorEq, Int.reduceLE, Int.reduceLT, Int.reduceNeg, Int.reduceToNat, Int.reduceAdd, Int.reduceSub, Int.reduceMul, Int.reduceBEq, Int.reduceBNe, Int.reduceEq]; subst hK hQ)
    | ((with_reducible refine AWp.drawT Try.follows ?_ ?_); decide +kernel) | ((with_reducible refine AWp.drawU Try.follows ?_ ?_); decide +kernel)
    | with_reducible (first | refine awOps_end ?_ | refine awT_end ?_ | refine awU_end ?_ | refine nThen ?_ | refine putKn ?_ | refine nSuf ?_ | refine rThen ?_ | refine eThen ?_ | refine nBlock ?_ | refine eBlock ?_ | refine fBlock (by decide) ?_ | refine rBlock ?_ | refine nScope ?_ | refine eScope ?_ | refine rScope ?_ | refine AWp.seq ?_ | refine AWp.block ?_ | refine AWp.scope ?_ | refine AWp.text ?_ | refine AWp.skip ?_ | refine AWp.exit ?_ | refine AWp.ret ?_ | refine AWp.label ?_ | refine brK_T (by assumption) ?_ | refine brK_F (by assumption) ?_ | refine brK_mk (fun hb => ?_) (fun hb => ?_) | refine And.intro (by first | assumption | omega | simp only [go_sem, reduceCtorEq]) ?_)
    | ((with_reducible (first | refine rBodyZ ?_ | refine nBodyZ ?_ | refine rBodyQ ?_ | refine nBodyQ ?_)); simp only [go_sem, Nat.reduceAdd, Nat.reduceSub, Nat.reduceMul, Nat.reduceDiv, Nat.reduceMod, Nat.reduceLT, Nat.reduceLeDiff, Nat.reduceEqDiff, Nat.reduceBEq, Nat.reduceBNe, reduceCtorEq, Int.reduceLE, Int.reduceLT, Int.reduceNeg, Int.reduceToNat, Int.reduceAdd, Int.reduceSub, Int.reduceMul, Int.reduceBEq, Int.reduceBNe, Int.reduceEq]))
        have hcv := covers (spansFrom M 0) M.length σ (by omega)
        rw [decide_eq_true hcov] at hcv
        refine ACalls.use hcv ?_
        repeat' (first
    | ((first | ((with_reducible refine awOps_move ?_ ?_); decide +kernel) | ((with_reducible refine awOps_load ?_ ?_); decide +kernel) | ((with_reducible refine awOps_one ?_ ?_); decide +kernel) | (with_reducible refine awOps_feed ?_) | ((with_reducible refine awOps_g ?_); refine awOps_guard rfl ?_) | ((with_reducible refine awT_one ?_ ?_); decide +kernel) | ((with_reducible refine awT_call ?_ ?_); decide +kernel) | ((with_reducible refine awT_g ?_); refine awT_guard rfl ?_) | ((with_reducible refine awU_one ?_ ?_); decide +kernel) | ((with_reducible refine awU_call ?_ ?_); decide +kernel) | ((with_reducible refine awU_g ?_); refine awU_guard rfl ?_) | (with_reducible refine AWp.condH ?_)); intro K Q' hK hQ; simp only [go_sem, Nat.reduceAdd, Nat.reduceSub, Nat.reduceMul, Nat.reduceDiv, Nat.reduceMod, Nat.reduceLT, Nat.reduceLeDiff, Nat.reduceEqDiff, Nat.reduceBEq, Nat.reduceBNe, reduceCtorEq, Int.reduceLE, Int.reduceLT, Int.reduceNeg, Int.reduceToNat, Int.reduceAdd, Int.reduceSub, Int.reduceMul, Int.reduceBEq, Int.reduceBNe, Int.reduceEq]; subst hK hQ)
    | ((with_reducible refine AWp.drawT Try.follows ?_ ?_); decide +kernel) | ((with_reducible refine AWp.drawU Try.follows ?_ ?_); decide +kernel)
    | with_reducible (first | refine awOps_end ?_ | refine awT_end ?_ | refine awU_end ?_ | refine nThen ?_ | refine putKn ?_ | refine nSuf ?_ | refine rThen ?_ | refine eThen ?_ | refine nBlock ?_ | refine eBlock ?_ | refine fBlock (by decide) ?_ | refine rBlock ?_ | refine nScope ?_ | refine eScope ?_ | refine rScope ?_ | refine AWp.seq ?_ | refine AWp.block ?_ | refine AWp.scope ?_ | refine AWp.text ?_ | refine AWp.skip ?_ | refine AWp.exit ?_ | refine AWp.ret ?_ | refine AWp.label ?_ | refine brK_T (by assumption) ?_ | refine brK_F (by assumption) ?_ | refine brK_mk (fun hb => ?_) (fun hb => ?_) | refine And.intro (by first | assumption | omega | simp only [go_sem, reduceCtorEq]) ?_)
    | ((with_reducible (first | refine rBodyZ ?_ | refine nBodyZ ?_ | refine rBodyQ ?_ | refine nBodyQ ?_)); simp only [go_sem, Nat.reduceAdd, Nat.reduceSub, Nat.reduceMul, Nat.reduceDiv, Nat.reduceMod, Nat.reduceLT, Nat.reduceLeDiff, Nat.reduceEqDiff, Nat.reduceBEq, Nat.reduceBNe, reduceCtorEq, Int.reduceLE, Int.reduceLT, Int.reduceNeg, Int.reduceToNat, Int.reduceAdd, Int.reduceSub, Int.reduceMul, Int.reduceBEq, Int.reduceBNe, Int.reduceEq]))
        exact ⟨by rw [chg_len]; simp, rfl⟩
end Go.Proofs.Ytoofpdmdgofdcaa.L

namespace Go.Proofs.Ytoofpdmdgofdcaa
open Go Go.RowKit Go.ChangeShapes Go.WideShapes Go.Proofs.Ytoofpdmdgofdcaa.E Go.Proofs.Ytoofpdmdgofdcaa.L
set_option linter.unusedVariables false
set_option linter.unusedSimpArgs false
set_option maxRecDepth 100000 in
theorem chartBack_lifted (os : Os) (started : os.Started) (H : Type) (enc : TypeId × Value → H) :
    ReturnsInHanded {} Try.checked os 5 .any (Rows.chartBackSpec.pre6 enc Try.prog Try.f5 Rows.chartBackRow.domain false) (Rows.chartBackSpec.post enc Try.prog Try.f5 false true false false) := by
  refine returnsInHanded_of_change_sized (C := Try.checked) (by kernel_rfl) started (by kernel_rfl) Try.func5
    (ChangeSpec.witness6 (enc := enc) (C := Try.checked) false ⟨#[], #[.slice none 0 0], []⟩ 8 (by kernel_rfl) (by kernel_rfl) (by kernel_rfl) (by kernel_rfl)) ?_
  intro W base args ds gs before hval hW _ hwt _
  have hW' := hW
  obtain ⟨p, q, hA0, hV, rfl, hfz, hnd⟩ := hW
  have hA : DataW.TrodAll enc Try.prog W 0 (fun _ => true) true Try.f5.params.toList args.toList ds p := hA0
  have hval : ∀ (j : Nat) t v, Try.f5.params[j]? = some t → args[j]? = some v → Value.okWide Try.prog W .any base t v := hval
  have hwt : (DataW.weightsEach Try.prog (Try.f5.params.toList ++ Rows.chartBackSpec.plain.varTypes Try.prog) (ds ++ gs)).all (· ≤ reachBytes) = true := hwt
  rw [Try.params5] at hA hval hwt
  obtain ⟨v0, vs0, d0, ds0, p0, q0, ha0, rfl, rfl, h0, r0⟩ := trodAll_cons hA
  obtain ⟨rfl, rfl, rfl⟩ := trodAll_nil r0
  obtain rfl : args = #[v0] := by cases args; simp_all
  obtain ⟨rfl, rfl⟩ := trodVars_none hV
  have hw : ∀ (j : Nat) t d, [23][j]? = some t → [d0][j]? = some d → ∀ n ∈ d.weights Try.prog t, n ≤ reachBytes := fun j t d h1 h2 n hn => by
    have := List.all_eq_true.1 hwt n (DataW.weights_mem_each (j := j) (by rw [List.getElem?_append_left (by have := (List.getElem?_eq_some_iff.1 h1).1; simpa using this)]; exact h1) (by simpa using h2) n hn)
    simpa using this
  obtain ⟨c0, R0, n0, s0⟩ := open_sl Try.underlying23 (hval 0 _ v0 rfl rfl) h0 (hw 0 _ _ rfl rfl)
  obtain ⟨c, rfl, _⟩ := sh_bytes Try.underlying23 Try.underlying5 (by kernel_rfl) (of_decide_eq_true (by kernel_rfl)) (s0 2)
  exact law_post (c := _) Try.func5 rfl (by rfl) (by kernel_rfl) (by kernel_rfl) (by kernel_rfl) Try.underlying4 hW' rfl rfl (cargs := [_]) rfl (fun j c v hc hv => by
    match j with
    | 0 => simp at hc hv; subst hc hv; exact ⟨R0, n0⟩
    | j + 1 => simp at hc) (chartBack c [])

theorem chartBack_holds : Rows.ChartBackSaid :=
  OpenClaim.holds_of_wide 5 Try.f5 rfl rfl rfl rfl rfl rfl rfl ⟨rfl, rfl, rfl, rfl, rfl⟩ rfl rfl rfl rfl rfl (by kernel_rfl) Try.func5 (by kernel_rfl)
    (of_decide_eq_true (by kernel_rfl)) (by unfold Func.isWrapper; first | (rw [if_pos (by decide +kernel)]; kernel_rfl) | (rw [if_neg (by decide +kernel)]; exact ⟨rfl, rfl⟩))
    (fun os started H enc _ => chartBack_lifted os started H enc)
end Go.Proofs.Ytoofpdmdgofdcaa
