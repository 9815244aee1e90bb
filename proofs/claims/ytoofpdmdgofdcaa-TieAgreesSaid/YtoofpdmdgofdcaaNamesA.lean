/- Facts on types and constants of the program, as rules; the library's sort laid at the program. No condition. -/
import Derived.Test.YtoofpdmdgofdcaaRows
import Derived.Test.YtoofpdmdgofdcaaEC
namespace Go.Proofs.Ytoofpdmdgofdcaa.L
open Go Go.RowKit Go.Proofs.Ytoofpdmdgofdcaa.E
theorem _root_.Go.Proofs.Try.follows : Try.prog.follows .mixedOrders = true := by kernel_rfl
theorem ts3 : tsize Try.prog 3 = some 1 := by kernel_rfl
theorem tb3 : tbytes Try.prog 3 = some 8 := by kernel_rfl
theorem tz3 : tzero Try.prog 3 = some [.i .i64 0] := by kernel_rfl
theorem tl3 : tzlen Try.prog 3 = some 1 := by kernel_rfl
theorem ts4 : tsize Try.prog 4 = some 1 := by kernel_rfl
theorem tb4 : tbytes Try.prog 4 = some 1 := by kernel_rfl
theorem tz4 : tzero Try.prog 4 = some [.b false] := by kernel_rfl
theorem tl4 : tzlen Try.prog 4 = some 1 := by kernel_rfl
theorem ts5 : tsize Try.prog 5 = some 1 := by kernel_rfl
theorem tb5 : tbytes Try.prog 5 = some 1 := by kernel_rfl
theorem tz5 : tzero Try.prog 5 = some [.i .u8 0] := by kernel_rfl
theorem tl5 : tzlen Try.prog 5 = some 1 := by kernel_rfl
theorem ts9 : tsize Try.prog 9 = some 1 := by kernel_rfl
theorem tb9 : tbytes Try.prog 9 = some 16 := by kernel_rfl
theorem tz9 : tzero Try.prog 9 = some [.s []] := by kernel_rfl
theorem tl9 : tzlen Try.prog 9 = some 1 := by kernel_rfl
theorem ts22 : tsize Try.prog 22 = some 1 := by kernel_rfl
theorem tb22 : tbytes Try.prog 22 = some 24 := by kernel_rfl
theorem tz22 : tzero Try.prog 22 = some [.sl .nil 0 []] := by kernel_rfl
theorem tl22 : tzlen Try.prog 22 = some 1 := by kernel_rfl
theorem ts23 : tsize Try.prog 23 = some 1 := by kernel_rfl
theorem tb23 : tbytes Try.prog 23 = some 24 := by kernel_rfl
theorem tz23 : tzero Try.prog 23 = some [.sl .nil 0 []] := by kernel_rfl
theorem tl23 : tzlen Try.prog 23 = some 1 := by kernel_rfl
theorem ts36 : tsize Try.prog 36 = some 2 := by kernel_rfl
theorem tb36 : tbytes Try.prog 36 = some 32 := by kernel_rfl
theorem tz36 : tzero Try.prog 36 = some [.s [], .s []] := by kernel_rfl
theorem tl36 : tzlen Try.prog 36 = some 2 := by kernel_rfl
theorem ok36 : okT Try.prog 36 = true := by kernel_rfl
theorem fok36 : flatOK Try.prog 36 (match Try.prog.underlying 36 with | some (.struct fs) => fs | _ => #[]) = true := by kernel_rfl
theorem ts37 : tsize Try.prog 37 = some 1 := by kernel_rfl
theorem tb37 : tbytes Try.prog 37 = some 24 := by kernel_rfl
theorem tz37 : tzero Try.prog 37 = some [.sl .nil 0 []] := by kernel_rfl
theorem tl37 : tzlen Try.prog 37 = some 1 := by kernel_rfl
theorem ts38 : tsize Try.prog 38 = some 1 := by kernel_rfl
theorem tb38 : tbytes Try.prog 38 = some 24 := by kernel_rfl
theorem tz38 : tzero Try.prog 38 = some [.sl .nil 0 []] := by kernel_rfl
theorem tl38 : tzlen Try.prog 38 = some 1 := by kernel_rfl
theorem ts40 : tsize Try.prog 40 = some 17 := by kernel_rfl
theorem tb40 : tbytes Try.prog 40 = some 192 := by kernel_rfl
theorem tz40 : tzero Try.prog 40 = some [.s [], .i .i64 0, .i .i64 0, .i .i64 0, .i .i64 0, .i .i64 0, .i .u8 0, .s [], .i .i64 0, .s [], .s [], .i .i64 0, .i .i64 0, .s [], .sl .nil 0 [], .b false, .i .i64 0] := by kernel_rfl
theorem tl40 : tzlen Try.prog 40 = some 17 := by kernel_rfl
theorem ok40 : okT Try.prog 40 = true := by kernel_rfl
theorem ts61 : tsize Try.prog 61 = some 2 := by kernel_rfl
theorem tb61 : tbytes Try.prog 61 = some 16 := by kernel_rfl
theorem tz61 : tzero Try.prog 61 = some [.i .i64 0, .i .i64 0] := by kernel_rfl
theorem tl61 : tzlen Try.prog 61 = some 2 := by kernel_rfl
theorem ok61 : okT Try.prog 61 = true := by kernel_rfl
theorem fok61 : flatOK Try.prog 61 (match Try.prog.underlying 61 with | some (.struct fs) => fs | _ => #[]) = true := by kernel_rfl
theorem ts62 : tsize Try.prog 62 = some 1 := by kernel_rfl
theorem tb62 : tbytes Try.prog 62 = some 24 := by kernel_rfl
theorem tz62 : tzero Try.prog 62 = some [.sl .nil 0 []] := by kernel_rfl
theorem tl62 : tzlen Try.prog 62 = some 1 := by kernel_rfl
theorem ts64 : tsize Try.prog 64 = some 1 := by kernel_rfl
theorem tb64 : tbytes Try.prog 64 = some 8 := by kernel_rfl
theorem tz64 : tzero Try.prog 64 = some [.nilmap] := by kernel_rfl
theorem tl64 : tzlen Try.prog 64 = some 1 := by kernel_rfl
theorem ts68 : tsize Try.prog 68 = some 1 := by kernel_rfl
theorem tb68 : tbytes Try.prog 68 = some 8 := by kernel_rfl
theorem tz68 : tzero Try.prog 68 = some [.nilfn] := by kernel_rfl
theorem tl68 : tzlen Try.prog 68 = some 1 := by kernel_rfl
theorem ts74 : tsize Try.prog 74 = some 1 := by kernel_rfl
theorem tb74 : tbytes Try.prog 74 = some 24 := by kernel_rfl
theorem tz74 : tzero Try.prog 74 = some [.sl .nil 0 []] := by kernel_rfl
theorem tl74 : tzlen Try.prog 74 = some 1 := by kernel_rfl
attribute [go_sem] ts3 tb3 tz3 tl3 ts4 tb4 tz4 tl4 ts5 tb5 tz5 tl5 ts9 tb9 tz9 tl9 ts22 tb22 tz22 tl22 ts23 tb23 tz23 tl23 ts36 tb36 tz36 tl36 ok36 ts37 tb37 tz37 tl37 ts38 tb38 tz38 tl38 ts40 tb40 tz40 tl40 ok40 ts61 tb61 tz61 tl61 ok61 ts62 tb62 tz62 tl62 ts64 tb64 tz64 tl64 ts68 tb68 tz68 tl68 ts74 tb74 tz74 tl74 Try.underlying3 Try.underlying4 Try.underlying5 Try.underlying9 Try.underlying22 Try.underlying23 Try.underlying36 Try.underlying37 Try.underlying38 Try.underlying40 Try.underlying61 Try.underlying62 Try.underlying64 Try.underlying68 Try.underlying74 Try.results6 Try.ntmps6 Try.results7 Try.ntmps7 Try.results15 Try.ntmps15 Try.results16 Try.ntmps16 Try.results17 Try.ntmps17 Try.results18 Try.ntmps18 Try.results19 Try.ntmps19 Try.results24 Try.ntmps24 Try.results25 Try.ntmps25 Try.results26 Try.ntmps26 Try.results27 Try.ntmps27 Try.results28 Try.ntmps28 Try.results29 Try.ntmps29 Try.results30 Try.ntmps30 Try.results31 Try.ntmps31 Try.results32 Try.ntmps32 Try.results33 Try.ntmps33 Try.results36 Try.ntmps36 Try.results37 Try.ntmps37 Try.results38 Try.ntmps38 Try.results39 Try.ntmps39 Try.results40 Try.ntmps40 Try.results41 Try.ntmps41 Try.results42 Try.ntmps42 Try.results44 Try.ntmps44 Try.results45 Try.ntmps45 Try.results46 Try.ntmps46


theorem cst_s0 : cst (.string ⟨#[]⟩) = .s [] := by kernel_rfl
attribute [go_sem] cst_s0
end Go.Proofs.Ytoofpdmdgofdcaa.L

namespace Go.Proofs.Ytoofpdmdgofdcaa.L
open Go Go.RowKit Go.Proofs.Ytoofpdmdgofdcaa.E
set_option linter.unusedVariables false
set_option linter.unusedSimpArgs false
abbrev PRec := List UInt8 × List UInt8
def encM (m : List PRec) : List (AV × AV) := m.map fun p => (.s p.1, .s p.2)
def keyAt (m : List PRec) (j : Nat) : List UInt8 := ((m[j]?).map (·.1)).getD []

theorem nodup_perm {l : List Nat} {n : Nat} (h : l.Nodup) (hl : ∀ j ∈ l, j < n) : l.Perm ((List.range n).filter fun j => l.contains j) := by
  rw [List.perm_ext_iff_of_nodup h (List.nodup_range.filter _)]
  intro a
  simp only [List.mem_filter, List.mem_range, List.contains_iff_mem]
  exact ⟨fun ha => ⟨hl a ha, ha⟩, fun ha => ha.2⟩
theorem nodup_le {l : List Nat} {n : Nat} (h : l.Nodup) (hl : ∀ j ∈ l, j < n) : l.length ≤ n := by
  rw [(nodup_perm h hl).length_eq]
  exact Nat.le_trans (List.length_filter_le _ _) (by simp)
theorem nodup_full {l : List Nat} {n : Nat} (h : l.Nodup) (hl : ∀ j ∈ l, j < n) (hf : ∀ j, j < n → j ∈ l) : l.Perm (List.range n) := by
  rw [List.perm_ext_iff_of_nodup h List.nodup_range]
  intro a
  simp only [List.mem_range]
  exact ⟨hl a, hf a⟩
theorem keys_range (m : List PRec) : (List.range m.length).map (keyAt m) = m.map (·.1) := by
  apply List.ext_getElem
  · simp
  · intro i h1 h2
    simp at h1 h2
    simp [keyAt, h2]

set_option maxRecDepth 10000
set_option maxHeartbeats 1000000
theorem keys1 (m : List PRec) (mid : Nat) (hn : m.length ≤ 1099511627776) :
    IterK Try.prog G0 44 [.pi [.mp mid] 0] 1 (fun s => s[mid]? = some (.map (encM m))) (fun dn x => ∃ k, x = [.s k] ∧ dn.length < m.length)
      (fun dn => ∃ ks : List (List UInt8), dn = ks.map (fun k => [AV.s k]) ∧ ks.Perm (m.map (·.1))) := by
  intro id T F σ hT hF hI hy h0
  refine ACalls.body G0_pl Try.func44 rfl (by rfl) (by decide) ?_; simp only [Try.ntmps44, List.replicate, go_sem, Nat.reduceAdd, Nat.reduceSub]
  have hI0 := hI _ _ _ h0
  have hlen : (encM m).length = m.length := by simp [encM]
  repeat' (first
    | ((first | ((with_reducible refine awOps_move ?_ ?_); decide +kernel) | ((with_reducible refine awOps_load ?_ ?_); decide +kernel) | ((with_reducible refine awOps_one ?_ ?_); decide +kernel) | (with_reducible refine awOps_feed ?_) | ((with_reducible refine awOps_g ?_); refine awOps_guard rfl ?_) | ((with_reducible refine awT_one ?_ ?_); decide +kernel) | ((with_reducible refine awT_call ?_ ?_); decide +kernel) | ((with_reducible refine awT_g ?_); refine awT_guard rfl ?_) | ((with_reducible refine awU_one ?_ ?_); decide +kernel) | ((with_reducible refine awU_call ?_ ?_); decide +kernel) | ((with_reducible refine awU_g ?_); refine awU_guard rfl ?_) | (with_reducible refine AWp.condH ?_)); intro K Q' hK hQ; simp only [hI0, hlen, go_sem, Nat.reduceAdd, Nat.reduceSub, Nat.reduceMul, Nat.reduceDiv, Nat.reduceMod, Nat.reduceLT, Nat.reduceLeDiff, Nat.reduceEqDiff, Nat.reduceBEq, Nat.reduceBNe, reduceCtorEq, Int.reduceLE, Int.reduceLT, Int.reduceNeg, Int.reduceToNat, Int.reduceAdd, Int.reduceSub, Int.reduceMul, Int.reduceBEq, Int.reduceBNe, Int.reduceEq]; subst hK hQ)
    | ((with_reducible refine AWp.drawT Try.follows ?_ ?_); decide +kernel) | ((with_reducible refine AWp.drawU Try.follows ?_ ?_); decide +kernel)
    | with_reducible (first | refine awOps_end ?_ | refine awT_end ?_ | refine awU_end ?_ | refine nThen ?_ | refine putKn ?_ | refine nSuf ?_ | refine rThen ?_ | refine eThen ?_ | refine nBlock ?_ | refine eBlock ?_ | refine fBlock (by decide) ?_ | refine rBlock ?_ | refine nScope ?_ | refine eScope ?_ | refine rScope ?_ | refine AWp.seq ?_ | refine AWp.block ?_ | refine AWp.scope ?_ | refine AWp.text ?_ | refine AWp.skip ?_ | refine AWp.exit ?_ | refine AWp.ret ?_ | refine AWp.label ?_ | refine brK_T (by assumption) ?_ | refine brK_F (by assumption) ?_ | refine brK_mk (fun hb => ?_) (fun hb => ?_))
    | ((with_reducible refine And.intro ?_ ?_); focus (first | assumption | omega | (simp only [go_sem, reduceCtorEq]; done)))
    | ((with_reducible (first | refine rBodyZ ?_ | refine nBodyZ ?_ | refine rBodyQ ?_ | refine nBodyQ ?_)); simp only [hI0, hlen, go_sem, Nat.reduceAdd, Nat.reduceSub, Nat.reduceMul, Nat.reduceDiv, Nat.reduceMod, Nat.reduceLT, Nat.reduceLeDiff, Nat.reduceEqDiff, Nat.reduceBEq, Nat.reduceBNe, reduceCtorEq, Int.reduceLE, Int.reduceLT, Int.reduceNeg, Int.reduceToNat, Int.reduceAdd, Int.reduceSub, Int.reduceMul, Int.reduceBEq, Int.reduceBNe, Int.reduceEq]))
  have hkey : ∀ (j : Nat) e, (encM m)[j]? = some e → j < m.length ∧ e.1 = .s (keyAt m j) := fun j e he => by
    have hj : j < (encM m).length := (List.getElem?_eq_some_iff.1 he).1
    rw [hlen] at hj
    refine ⟨hj, ?_⟩
    simp only [encM, List.getElem?_map, List.getElem?_eq_getElem hj, Option.map_some, Option.some.injEq] at he
    subst he
    simp [keyAt, hj]
  refine AWp.loop (α := List Nat × AState × AState) (fun x => x.1.Nodup ∧ (∀ j ∈ x.1, j < m.length) ∧ T (x.1.map fun j => [.s (keyAt m j)]) x.2.1 x.2.2) (fun x => m.length - x.1.length) (fun x => mkE 14 [(0, .yl id), (5, .pm σ.length 0)]) (fun x => x.2.1 ++ ([.it m.length x.1 [.mp mid]] ++ x.2.2)) ([], σ, []) ⟨List.nodup_nil, by simp, h0⟩ ?_ ?_ ?_
  · simp only [go_sem, Nat.reduceAdd, Nat.reduceSub, Nat.reduceMul, Nat.reduceDiv, Nat.reduceMod, Nat.reduceLT, Nat.reduceLeDiff, Nat.reduceEqDiff, Nat.reduceBEq, Nat.reduceBNe, reduceCtorEq, Int.reduceLE, Int.reduceLT, Int.reduceNeg, Int.reduceToNat, Int.reduceAdd, Int.reduceSub, Int.reduceMul, Int.reduceBEq, Int.reduceBNe, Int.reduceEq]
  · exact WeakS.refl _
  rintro ⟨seen, p, nw⟩ ⟨hnd, hlt, hTs⟩
  simp only at hnd hlt hTs
  have hIp := hI _ _ _ hTs
  have hpl := hT _ _ _ hTs
  have hmid : mid < p.length := (List.getElem?_eq_some_iff.1 hIp).1
  have hIp1 : (p ++ AObj.it m.length seen [.mp mid] :: nw)[mid]? = some (.map (encM m)) := by rw [List.getElem?_append_left hmid]; exact hIp
  have hget : (p ++ AObj.it m.length seen [.mp mid] :: nw)[σ.length]? = some (.it m.length seen [.mp mid]) := by rw [← hpl, st_get0]; rfl
  have hle := nodup_le hnd hlt
  have hset : ∀ x, (p ++ AObj.it m.length seen [.mp mid] :: nw).set σ.length x = p ++ x :: nw := fun x => by rw [← hpl, st_set0]; rfl
  repeat' (first
    | ((first | ((with_reducible refine awOps_move ?_ ?_); decide +kernel) | ((with_reducible refine awOps_load ?_ ?_); decide +kernel) | ((with_reducible refine awOps_one ?_ ?_); decide +kernel) | (with_reducible refine awOps_feed ?_) | ((with_reducible refine awOps_g ?_); refine awOps_guard rfl ?_) | ((with_reducible refine awT_one ?_ ?_); decide +kernel) | ((with_reducible refine awT_call ?_ ?_); decide +kernel) | ((with_reducible refine awT_g ?_); refine awT_guard rfl ?_) | ((with_reducible refine awU_one ?_ ?_); decide +kernel) | ((with_reducible refine awU_call ?_ ?_); decide +kernel) | ((with_reducible refine awU_g ?_); refine awU_guard rfl ?_) | (with_reducible refine AWp.condH ?_)); intro K Q' hK hQ; simp only [hIp1, hget, hlen, go_sem, Nat.reduceAdd, Nat.reduceSub, Nat.reduceMul, Nat.reduceDiv, Nat.reduceMod, Nat.reduceLT, Nat.reduceLeDiff, Nat.reduceEqDiff, Nat.reduceBEq, Nat.reduceBNe, reduceCtorEq, Int.reduceLE, Int.reduceLT, Int.reduceNeg, Int.reduceToNat, Int.reduceAdd, Int.reduceSub, Int.reduceMul, Int.reduceBEq, Int.reduceBNe, Int.reduceEq]; subst hK hQ)
    | ((with_reducible refine AWp.drawT Try.follows ?_ ?_); decide +kernel) | ((with_reducible refine AWp.drawU Try.follows ?_ ?_); decide +kernel)
    | with_reducible (first | refine awOps_end ?_ | refine awT_end ?_ | refine awU_end ?_ | refine nThen ?_ | refine putKn ?_ | refine nSuf ?_ | refine rThen ?_ | refine eThen ?_ | refine nBlock ?_ | refine eBlock ?_ | refine fBlock (by decide) ?_ | refine rBlock ?_ | refine nScope ?_ | refine eScope ?_ | refine rScope ?_ | refine AWp.seq ?_ | refine AWp.block ?_ | refine AWp.scope ?_ | refine AWp.text ?_ | refine AWp.skip ?_ | refine AWp.exit ?_ | refine AWp.ret ?_ | refine AWp.label ?_ | refine brK_T (by assumption) ?_ | refine brK_F (by assumption) ?_ | refine brK_mk (fun hb => ?_) (fun hb => ?_))
    | ((with_reducible refine And.intro ?_ ?_); focus (first | assumption | omega | (simp only [go_sem, reduceCtorEq]; done)))
    | ((with_reducible (first | refine rBodyZ ?_ | refine nBodyZ ?_ | refine rBodyQ ?_ | refine nBodyQ ?_)); simp only [hIp1, hget, hlen, go_sem, Nat.reduceAdd, Nat.reduceSub, Nat.reduceMul, Nat.reduceDiv, Nat.reduceMod, Nat.reduceLT, Nat.reduceLeDiff, Nat.reduceEqDiff, Nat.reduceBEq, Nat.reduceBNe, reduceCtorEq, Int.reduceLE, Int.reduceLT, Int.reduceNeg, Int.reduceToNat, Int.reduceAdd, Int.reduceSub, Int.reduceMul, Int.reduceBEq, Int.reduceBNe, Int.reduceEq]))
  refine ⟨fun hall => ?_, fun j e he hns => ?_⟩
  · repeat' (first
    | ((first | ((with_reducible refine awOps_move ?_ ?_); decide +kernel) | ((with_reducible refine awOps_load ?_ ?_); decide +kernel) | ((with_reducible refine awOps_one ?_ ?_); decide +kernel) | (with_reducible refine awOps_feed ?_) | ((with_reducible refine awOps_g ?_); refine awOps_guard rfl ?_) | ((with_reducible refine awT_one ?_ ?_); decide +kernel) | ((with_reducible refine awT_call ?_ ?_); decide +kernel) | ((with_reducible refine awT_g ?_); refine awT_guard rfl ?_) | ((with_reducible refine awU_one ?_ ?_); decide +kernel) | ((with_reducible refine awU_call ?_ ?_); decide +kernel) | ((with_reducible refine awU_g ?_); refine awU_guard rfl ?_) | (with_reducible refine AWp.condH ?_)); intro K Q' hK hQ; simp only [go_sem, Nat.reduceAdd, Nat.reduceSub, Nat.reduceMul, Nat.reduceDiv, Nat.reduceMod, Nat.reduceLT, Nat.reduceLeDiff, Nat.reduceEqDiff, Nat.reduceBEq, Nat.reduceBNe, reduceCtorEq, Int.reduceLE, Int.reduceLT, Int.reduceNeg, Int.reduceToNat, Int.reduceAdd, Int.reduceSub, Int.reduceMul, Int.reduceBEq, Int.reduceBNe, Int.reduceEq]; subst hK hQ)
    | ((with_reducible refine AWp.drawT Try.follows ?_ ?_); decide +kernel) | ((with_reducible refine AWp.drawU Try.follows ?_ ?_); decide +kernel)
    | with_reducible (first | refine awOps_end ?_ | refine awT_end ?_ | refine awU_end ?_ | refine nThen ?_ | refine putKn ?_ | refine nSuf ?_ | refine rThen ?_ | refine eThen ?_ | refine nBlock ?_ | refine eBlock ?_ | refine fBlock (by decide) ?_ | refine rBlock ?_ | refine nScope ?_ | refine eScope ?_ | refine rScope ?_ | refine AWp.seq ?_ | refine AWp.block ?_ | refine AWp.scope ?_ | refine AWp.text ?_ | refine AWp.skip ?_ | refine AWp.exit ?_ | refine AWp.ret ?_ | refine AWp.label ?_ | refine brK_T (by assumption) ?_ | refine brK_F (by assumption) ?_ | refine brK_mk (fun hb => ?_) (fun hb => ?_))
    | ((with_reducible refine And.intro ?_ ?_); focus (first | assumption | omega | (simp only [go_sem, reduceCtorEq]; done)))
    | ((with_reducible (first | refine rBodyZ ?_ | refine nBodyZ ?_ | refine rBodyQ ?_ | refine nBodyQ ?_)); simp only [go_sem, Nat.reduceAdd, Nat.reduceSub, Nat.reduceMul, Nat.reduceDiv, Nat.reduceMod, Nat.reduceLT, Nat.reduceLeDiff, Nat.reduceEqDiff, Nat.reduceBEq, Nat.reduceBNe, reduceCtorEq, Int.reduceLE, Int.reduceLT, Int.reduceNeg, Int.reduceToNat, Int.reduceAdd, Int.reduceSub, Int.reduceMul, Int.reduceBEq, Int.reduceBNe, Int.reduceEq]))
    refine ⟨_, p, [_], nw, rfl, rfl, rfl, .inl ⟨_, ⟨seen.map (keyAt m), by simp, ?_⟩, hTs⟩⟩
    rw [← keys_range]
    exact (nodup_full hnd hlt hall).map _
  · obtain ⟨hj, hek⟩ := hkey j e he
    have hIp2 : (p ++ AObj.it m.length (seen ++ [j]) [.mp mid] :: nw)[mid]? = some (.map (encM m)) := by rw [List.getElem?_append_left hmid]; exact hIp
    have hget2 : (p ++ AObj.it m.length (seen ++ [j]) [.mp mid] :: nw)[σ.length]? = some (.it m.length (seen ++ [j]) [.mp mid]) := by rw [← hpl, st_get0]; rfl
    have hlast : (seen ++ [j]).getLast? = some j := by simp
    have hnd2 : (seen ++ [j]).Nodup := by
      rw [List.nodup_append]
      exact ⟨hnd, by simp, fun a ha b hb e => by simp at hb; subst hb; subst e; exact hns ha⟩
    have hlt2 : ∀ i ∈ seen ++ [j], i < m.length := fun i hi => by
      rcases List.mem_append.1 hi with h | h
      · exact hlt i h
      · simp at h; omega
    have hle2 := nodup_le hnd2 hlt2
    simp only [List.length_append, List.length_cons, List.length_nil] at hle2
    repeat' (first
    | ((first | ((with_reducible refine awOps_move ?_ ?_); decide +kernel) | ((with_reducible refine awOps_load ?_ ?_); decide +kernel) | ((with_reducible refine awOps_one ?_ ?_); decide +kernel) | (with_reducible refine awOps_feed ?_) | ((with_reducible refine awOps_g ?_); refine awOps_guard rfl ?_) | ((with_reducible refine awT_one ?_ ?_); decide +kernel) | ((with_reducible refine awT_call ?_ ?_); decide +kernel) | ((with_reducible refine awT_g ?_); refine awT_guard rfl ?_) | ((with_reducible refine awU_one ?_ ?_); decide +kernel) | ((with_reducible refine awU_call ?_ ?_); decide +kernel) | ((with_reducible refine awU_g ?_); refine awU_guard rfl ?_) | (with_reducible refine AWp.condH ?_)); intro K Q' hK hQ; simp only [hset, hIp2, hget2, hlen, hlast, he, hek, Option.bind_some, go_sem, Nat.reduceAdd, Nat.reduceSub, Nat.reduceMul, Nat.reduceDiv, Nat.reduceMod, Nat.reduceLT, Nat.reduceLeDiff, Nat.reduceEqDiff, Nat.reduceBEq, Nat.reduceBNe, reduceCtorEq, Int.reduceLE, Int.reduceLT, Int.reduceNeg, Int.reduceToNat, Int.reduceAdd, Int.reduceSub, Int.reduceMul, Int.reduceBEq, Int.reduceBNe, Int.reduceEq]; subst hK hQ)
    | ((with_reducible refine AWp.drawT Try.follows ?_ ?_); decide +kernel) | ((with_reducible refine AWp.drawU Try.follows ?_ ?_); decide +kernel)
    | with_reducible (first | refine awOps_end ?_ | refine awT_end ?_ | refine awU_end ?_ | refine nThen ?_ | refine putKn ?_ | refine nSuf ?_ | refine rThen ?_ | refine eThen ?_ | refine nBlock ?_ | refine eBlock ?_ | refine fBlock (by decide) ?_ | refine rBlock ?_ | refine nScope ?_ | refine eScope ?_ | refine rScope ?_ | refine AWp.seq ?_ | refine AWp.block ?_ | refine AWp.scope ?_ | refine AWp.text ?_ | refine AWp.skip ?_ | refine AWp.exit ?_ | refine AWp.ret ?_ | refine AWp.label ?_ | refine brK_T (by assumption) ?_ | refine brK_F (by assumption) ?_ | refine brK_mk (fun hb => ?_) (fun hb => ?_))
    | ((with_reducible refine And.intro ?_ ?_); focus (first | assumption | omega | (simp only [go_sem, reduceCtorEq]; done)))
    | ((with_reducible (first | refine rBodyZ ?_ | refine nBodyZ ?_ | refine rBodyQ ?_ | refine nBodyQ ?_)); simp only [hset, hIp2, hget2, hlen, hlast, he, hek, Option.bind_some, go_sem, Nat.reduceAdd, Nat.reduceSub, Nat.reduceMul, Nat.reduceDiv, Nat.reduceMod, Nat.reduceLT, Nat.reduceLeDiff, Nat.reduceEqDiff, Nat.reduceBEq, Nat.reduceBNe, reduceCtorEq, Int.reduceLE, Int.reduceLT, Int.reduceNeg, Int.reduceToNat, Int.reduceAdd, Int.reduceSub, Int.reduceMul, Int.reduceBEq, Int.reduceBNe, Int.reduceEq]))
    refine (hy _ [.s (keyAt m j)] p [.it m.length (seen ++ [j]) [.mp mid]] nw rfl ⟨_, rfl, by simp; omega⟩ hTs).mono ?_
    rintro y tt ⟨p', nw', rfl, (⟨rfl, hT'⟩ | ⟨rfl, hF'⟩)⟩
    · simp only [callK, go_sem]
      repeat' (first
    | ((first | ((with_reducible refine awOps_move ?_ ?_); decide +kernel) | ((with_reducible refine awOps_load ?_ ?_); decide +kernel) | ((with_reducible refine awOps_one ?_ ?_); decide +kernel) | (with_reducible refine awOps_feed ?_) | ((with_reducible refine awOps_g ?_); refine awOps_guard rfl ?_) | ((with_reducible refine awT_one ?_ ?_); decide +kernel) | ((with_reducible refine awT_call ?_ ?_); decide +kernel) | ((with_reducible refine awT_g ?_); refine awT_guard rfl ?_) | ((with_reducible refine awU_one ?_ ?_); decide +kernel) | ((with_reducible refine awU_call ?_ ?_); decide +kernel) | ((with_reducible refine awU_g ?_); refine awU_guard rfl ?_) | (with_reducible refine AWp.condH ?_)); intro K Q' hK hQ; simp only [go_sem, Nat.reduceAdd, Nat.reduceSub, Nat.reduceMul, Nat.reduceDiv, Nat.reduceMod, Nat.reduceLT, Nat.reduceLeDiff, Nat.reduceEqDiff, Nat.reduceBEq, Nat.reduceBNe, reduceCtorEq, Int.reduceLE, Int.reduceLT, Int.reduceNeg, Int.reduceToNat, Int.reduceAdd, Int.reduceSub, Int.reduceMul, Int.reduceBEq, Int.reduceBNe, Int.reduceEq]; subst hK hQ)
    | ((with_reducible refine AWp.drawT Try.follows ?_ ?_); decide +kernel) | ((with_reducible refine AWp.drawU Try.follows ?_ ?_); decide +kernel)
    | with_reducible (first | refine awOps_end ?_ | refine awT_end ?_ | refine awU_end ?_ | refine nThen ?_ | refine putKn ?_ | refine nSuf ?_ | refine rThen ?_ | refine eThen ?_ | refine nBlock ?_ | refine eBlock ?_ | refine fBlock (by decide) ?_ | refine rBlock ?_ | refine nScope ?_ | refine eScope ?_ | refine rScope ?_ | refine AWp.seq ?_ | refine AWp.block ?_ | refine AWp.scope ?_ | refine AWp.text ?_ | refine AWp.skip ?_ | refine AWp.exit ?_ | refine AWp.ret ?_ | refine AWp.label ?_ | refine brK_T (by assumption) ?_ | refine brK_F (by assumption) ?_ | refine brK_mk (fun hb => ?_) (fun hb => ?_))
    | ((with_reducible refine And.intro ?_ ?_); focus (first | assumption | omega | (simp only [go_sem, reduceCtorEq]; done)))
    | ((with_reducible (first | refine rBodyZ ?_ | refine nBodyZ ?_ | refine rBodyQ ?_ | refine nBodyQ ?_)); simp only [go_sem, Nat.reduceAdd, Nat.reduceSub, Nat.reduceMul, Nat.reduceDiv, Nat.reduceMod, Nat.reduceLT, Nat.reduceLeDiff, Nat.reduceEqDiff, Nat.reduceBEq, Nat.reduceBNe, reduceCtorEq, Int.reduceLE, Int.reduceLT, Int.reduceNeg, Int.reduceToNat, Int.reduceAdd, Int.reduceSub, Int.reduceMul, Int.reduceBEq, Int.reduceBNe, Int.reduceEq]))
      exact ⟨(seen ++ [j], p', nw'), ⟨hnd2, hlt2, by simpa using hT'⟩, by simp only [List.length_append, List.length_cons, List.length_nil]; omega, by simp only [go_sem, Nat.reduceAdd, Nat.reduceSub, Nat.reduceMul, Nat.reduceDiv, Nat.reduceMod, Nat.reduceLT, Nat.reduceLeDiff, Nat.reduceEqDiff, Nat.reduceBEq, Nat.reduceBNe, reduceCtorEq, Int.reduceLE, Int.reduceLT, Int.reduceNeg, Int.reduceToNat, Int.reduceAdd, Int.reduceSub, Int.reduceMul, Int.reduceBEq, Int.reduceBNe, Int.reduceEq], WeakS.refl _⟩
    · simp only [callK, go_sem]
      repeat' (first
    | ((first | ((with_reducible refine awOps_move ?_ ?_); decide +kernel) | ((with_reducible refine awOps_load ?_ ?_); decide +kernel) | ((with_reducible refine awOps_one ?_ ?_); decide +kernel) | (with_reducible refine awOps_feed ?_) | ((with_reducible refine awOps_g ?_); refine awOps_guard rfl ?_) | ((with_reducible refine awT_one ?_ ?_); decide +kernel) | ((with_reducible refine awT_call ?_ ?_); decide +kernel) | ((with_reducible refine awT_g ?_); refine awT_guard rfl ?_) | ((with_reducible refine awU_one ?_ ?_); decide +kernel) | ((with_reducible refine awU_call ?_ ?_); decide +kernel) | ((with_reducible refine awU_g ?_); refine awU_guard rfl ?_) | (with_reducible refine AWp.condH ?_)); intro K Q' hK hQ; simp only [go_sem, Nat.reduceAdd, Nat.reduceSub, Nat.reduceMul, Nat.reduceDiv, Nat.reduceMod, Nat.reduceLT, Nat.reduceLeDiff, Nat.reduceEqDiff, Nat.reduceBEq, Nat.reduceBNe, reduceCtorEq, Int.reduceLE, Int.reduceLT, Int.reduceNeg, Int.reduceToNat, Int.reduceAdd, Int.reduceSub, Int.reduceMul, Int.reduceBEq, Int.reduceBNe, Int.reduceEq]; subst hK hQ)
    | ((with_reducible refine AWp.drawT Try.follows ?_ ?_); decide +kernel) | ((with_reducible refine AWp.drawU Try.follows ?_ ?_); decide +kernel)
    | with_reducible (first | refine awOps_end ?_ | refine awT_end ?_ | refine awU_end ?_ | refine nThen ?_ | refine putKn ?_ | refine nSuf ?_ | refine rThen ?_ | refine eThen ?_ | refine nBlock ?_ | refine eBlock ?_ | refine fBlock (by decide) ?_ | refine rBlock ?_ | refine nScope ?_ | refine eScope ?_ | refine rScope ?_ | refine AWp.seq ?_ | refine AWp.block ?_ | refine AWp.scope ?_ | refine AWp.text ?_ | refine AWp.skip ?_ | refine AWp.exit ?_ | refine AWp.ret ?_ | refine AWp.label ?_ | refine brK_T (by assumption) ?_ | refine brK_F (by assumption) ?_ | refine brK_mk (fun hb => ?_) (fun hb => ?_))
    | ((with_reducible refine And.intro ?_ ?_); focus (first | assumption | omega | (simp only [go_sem, reduceCtorEq]; done)))
    | ((with_reducible (first | refine rBodyZ ?_ | refine nBodyZ ?_ | refine rBodyQ ?_ | refine nBodyQ ?_)); simp only [go_sem, Nat.reduceAdd, Nat.reduceSub, Nat.reduceMul, Nat.reduceDiv, Nat.reduceMod, Nat.reduceLT, Nat.reduceLeDiff, Nat.reduceEqDiff, Nat.reduceBEq, Nat.reduceBNe, reduceCtorEq, Int.reduceLE, Int.reduceLT, Int.reduceNeg, Int.reduceToNat, Int.reduceAdd, Int.reduceSub, Int.reduceMul, Int.reduceBEq, Int.reduceBNe, Int.reduceEq]))
      exact ⟨_, p', [_], nw', rfl, rfl, rfl, .inr ⟨_, hF'⟩⟩
end Go.Proofs.Ytoofpdmdgofdcaa.L

namespace Go.Proofs.Ytoofpdmdgofdcaa.L
open Go Go.RowKit Go.Proofs.Ytoofpdmdgofdcaa.E
set_option linter.unusedVariables false
set_option linter.unusedSimpArgs false
set_option maxRecDepth 10000
set_option maxHeartbeats 1000000
def nwOf (v : VecG) (n : Nat) (cs : List AV) : AState := match n with | 0 => v.js | _ + 1 => v.js ++ [.cells (cs ++ v.junk)]
theorem vS_nw (B : AState) (v : VecG) (n : Nat) (cs : List AV) : vS B v n cs = B ++ nwOf v n cs := by cases n <;> rfl
theorem vV_len {B B' : AState} (h : B.length = B'.length) (v : VecG) (z n : Nat) : vV B v z n = vV B' v z n := by cases n <;> simp [vV, h]
theorem one_vV (B : AState) (v : VecG) (z n : Nat) : E.one (vV B v z n) = true := by cases n <;> rfl
theorem vV_plOr (B : AState) (v : VecG) (z n : Nat) : (vV B v z n).pl = vV B v z n ∨ (vV B v z n).pl = .sl .no 0 [] := by cases n <;> first | exact .inl rfl | exact .inr rfl
abbrev strs (ks : List (List UInt8)) : List AV := ks.map AV.s
abbrev items (ks : List (List UInt8)) : List (List AV) := ks.map fun k => [AV.s k]

theorem appM_box {K : AEnv → AState → Prop} {env : AEnv} {σ B ls : AState} {x y : AObj} {d : Option Tmp} {z by_ n m : Nat} {v : VecG} {cs ds : List AV} (hB : B.length = σ.length + 2 + ls.length) (hv : VOK v z n cs) (hm : 0 < m) (hds : ds.length = m * z) (hone : ds.all E.one = true) (hb : 2 * (n + m) * by_ ≤ 281474976710656) (hnm : n + m ≤ 281474976710656) (hpl : ds.map AV.pl = ds)
    (h : ∀ v', VOK v' z (n + m) (cs ++ ds) → K (aput env d (vV B v' z (n + m))) (σ ++ x :: y :: (ls ++ nwOf v' (n + m) (cs ++ ds)))) : appM K env (σ ++ x :: y :: (ls ++ nwOf v n cs)) d z by_ (vV B v z n) (m, ds) := by
  have hl : B.length = (σ ++ x :: y :: ls).length := by simp; omega
  have e : ∀ v n cs, σ ++ x :: y :: (ls ++ nwOf v n cs) = vS (σ ++ x :: y :: ls) v n cs := fun v n cs => by rw [vS_nw]; simp
  rw [e, vV_len hl]
  refine appM_vV hv hm hds hone hb hnm hpl fun v' hv' => ?_
  have := h v' hv'
  rwa [e, vV_len hl] at this

theorem appendSeqK {f : FuncId} {fn : Func} {c : Code} {cap : List AV} {k N : Nat} {I : AState → Prop} {ok : List (List AV) → List AV → Prop} {full : List (List AV) → Prop} {σ : AState} (hf : Try.prog.funcs[f]? = some fn) (hb : fn.body = some c) (hng : (fn.name == "runtime.NumGoroutine") = false) (hit : IterK Try.prog G0 f (cap.map AV.pl) k I ok full)
    (hI : ∀ l, I (σ ++ l)) (hok : ∀ dn x, ok dn x → ∃ s, x = [.s s] ∧ dn.length < N) (hN : N ≤ 1099511627776) :
    ACalls Try.prog G0 46 [.sl .nil 0 [], .fn f cap] σ fun r s => ∃ (js : AState) (v : VecG) (ks : List (List UInt8)), full (items ks) ∧ VOK v 1 ks.length (strs ks) ∧ s = vS (σ ++ js) v ks.length (strs ks) ∧ r = .ret (vV (σ ++ js) v 1 ks.length).pl := by
  refine ACalls.body G0_pl Try.func46 rfl (by rfl) (by decide) ?_; simp only [Try.ntmps46, List.replicate, go_sem, Nat.reduceAdd, Nat.reduceSub]
  repeat' (first
    | ((first | ((with_reducible refine awOps_move ?_ ?_); decide +kernel) | ((with_reducible refine awOps_load ?_ ?_); decide +kernel) | ((with_reducible refine awOps_one ?_ ?_); decide +kernel) | (with_reducible refine awOps_feed ?_) | ((with_reducible refine awOps_g ?_); refine awOps_guard rfl ?_) | ((with_reducible refine awT_one ?_ ?_); decide +kernel) | ((with_reducible refine awT_call ?_ ?_); decide +kernel) | ((with_reducible refine awT_g ?_); refine awT_guard rfl ?_) | ((with_reducible refine awU_one ?_ ?_); decide +kernel) | ((with_reducible refine awU_call ?_ ?_); decide +kernel) | ((with_reducible refine awU_g ?_); refine awU_guard rfl ?_) | (with_reducible refine AWp.condH ?_)); intro K Q' hK hQ; simp only [go_sem, Nat.reduceAdd, Nat.reduceSub, Nat.reduceMul, Nat.reduceDiv, Nat.reduceMod, Nat.reduceLT, Nat.reduceLeDiff, Nat.reduceEqDiff, Nat.reduceBEq, Nat.reduceBNe, reduceCtorEq, Int.reduceLE, Int.reduceLT, Int.reduceNeg, Int.reduceToNat, Int.reduceAdd, Int.reduceSub, Int.reduceMul, Int.reduceBEq, Int.reduceBNe, Int.reduceEq]; subst hK hQ)
    | ((with_reducible refine AWp.drawT Try.follows ?_ ?_); decide +kernel) | ((with_reducible refine AWp.drawU Try.follows ?_ ?_); decide +kernel)
    | with_reducible (first | refine awOps_end ?_ | refine awT_end ?_ | refine awU_end ?_ | refine nThen ?_ | refine putKn ?_ | refine nSuf ?_ | refine rThen ?_ | refine eThen ?_ | refine nBlock ?_ | refine eBlock ?_ | refine fBlock (by decide) ?_ | refine rBlock ?_ | refine nScope ?_ | refine eScope ?_ | refine rScope ?_ | refine AWp.seq ?_ | refine AWp.block ?_ | refine AWp.scope ?_ | refine AWp.text ?_ | refine AWp.skip ?_ | refine AWp.exit ?_ | refine AWp.ret ?_ | refine AWp.label ?_ | refine brK_T (by assumption) ?_ | refine brK_F (by assumption) ?_ | refine brK_mk (fun hb => ?_) (fun hb => ?_))
    | ((with_reducible refine And.intro ?_ ?_); focus (first | assumption | omega | (simp only [go_sem, reduceCtorEq]; done)))
    | ((with_reducible (first | refine rBodyZ ?_ | refine nBodyZ ?_ | refine rBodyQ ?_ | refine nBodyQ ?_)); simp only [go_sem, Nat.reduceAdd, Nat.reduceSub, Nat.reduceMul, Nat.reduceDiv, Nat.reduceMod, Nat.reduceLT, Nat.reduceLeDiff, Nat.reduceEqDiff, Nat.reduceBEq, Nat.reduceBNe, reduceCtorEq, Int.reduceLE, Int.reduceLT, Int.reduceNeg, Int.reduceToNat, Int.reduceAdd, Int.reduceSub, Int.reduceMul, Int.reduceBEq, Int.reduceBNe, Int.reduceEq]))
  have hB : ∃ B : AState, B.length = σ.length + 2 + k := ⟨List.replicate (σ.length + 2 + k) (.cells []), by simp⟩
  obtain ⟨B, hBl⟩ := hB
  refine AWp.rangeFuncK (f := f) (cap := cap) (fun dn p nw => ∃ (v : VecG) (ks : List (List UInt8)), dn = items ks ∧ VOK v 1 ks.length (strs ks) ∧ p = σ ++ [.cells [vV B v 1 ks.length]] ∧ nw = nwOf v ks.length (strs ks)) (fun _ _ _ => False) hf hb hng rfl hit ?_ ?_ ⟨⟨[], 0, []⟩, [], rfl, VOK.nil [], rfl, rfl⟩ ?_ ?_ (fun _ _ _ _ _ _ _ h => h.elim)
  · rintro dn p nw o _ ⟨v, ks, _, _, rfl, _⟩
    rw [List.append_assoc]
    exact hI _
  · intro dn x hx
    obtain ⟨s, rfl, _⟩ := hok dn x hx
    refine ⟨rfl, fun j c hj => ?_⟩
    cases j with
    | zero => simp at hj; subst hj; exact pl_mk (by simp) (by simp)
    | succ j => simp at hj
  · rintro dn x p ls nw r hls hx hp ⟨v, ks, rfl, hv, rfl, rfl⟩
    obtain ⟨s, rfl, hlt⟩ := hok _ _ hx
    simp only [List.length_map] at hlt
    simp only [aputs, List.zip, List.zipWith, go_sem, Nat.reduceAdd, Nat.reduceSub, Nat.reduceMul, Nat.reduceDiv, Nat.reduceMod, Nat.reduceLT, Nat.reduceLeDiff, Nat.reduceEqDiff, Nat.reduceBEq, Nat.reduceBNe, reduceCtorEq, Int.reduceLE, Int.reduceLT, Int.reduceNeg, Int.reduceToNat, Int.reduceAdd, Int.reduceSub, Int.reduceMul, Int.reduceBEq, Int.reduceBNe, Int.reduceEq]
    repeat' (first
    | ((first | ((with_reducible refine awOps_move ?_ ?_); decide +kernel) | ((with_reducible refine awOps_load ?_ ?_); decide +kernel) | ((with_reducible refine awOps_one ?_ ?_); decide +kernel) | (with_reducible refine awOps_feed ?_) | ((with_reducible refine awOps_g ?_); refine awOps_guard rfl ?_) | ((with_reducible refine awT_one ?_ ?_); decide +kernel) | ((with_reducible refine awT_call ?_ ?_); decide +kernel) | ((with_reducible refine awT_g ?_); refine awT_guard rfl ?_) | ((with_reducible refine awU_one ?_ ?_); decide +kernel) | ((with_reducible refine awU_call ?_ ?_); decide +kernel) | ((with_reducible refine awU_g ?_); refine awU_guard rfl ?_) | (with_reducible refine AWp.condH ?_)); intro K Q' hK hQ; simp only [go_sem, Nat.reduceAdd, Nat.reduceSub, Nat.reduceMul, Nat.reduceDiv, Nat.reduceMod, Nat.reduceLT, Nat.reduceLeDiff, Nat.reduceEqDiff, Nat.reduceBEq, Nat.reduceBNe, reduceCtorEq, Int.reduceLE, Int.reduceLT, Int.reduceNeg, Int.reduceToNat, Int.reduceAdd, Int.reduceSub, Int.reduceMul, Int.reduceBEq, Int.reduceBNe, Int.reduceEq]; subst hK hQ)
    | ((with_reducible refine AWp.drawT Try.follows ?_ ?_); decide +kernel) | ((with_reducible refine AWp.drawU Try.follows ?_ ?_); decide +kernel)
    | with_reducible (first | refine awOps_end ?_ | refine awT_end ?_ | refine awU_end ?_ | refine nThen ?_ | refine putKn ?_ | refine nSuf ?_ | refine rThen ?_ | refine eThen ?_ | refine nBlock ?_ | refine eBlock ?_ | refine fBlock (by decide) ?_ | refine rBlock ?_ | refine nScope ?_ | refine eScope ?_ | refine rScope ?_ | refine AWp.seq ?_ | refine AWp.block ?_ | refine AWp.scope ?_ | refine AWp.text ?_ | refine AWp.skip ?_ | refine AWp.exit ?_ | refine AWp.ret ?_ | refine AWp.label ?_ | refine brK_T (by assumption) ?_ | refine brK_F (by assumption) ?_ | refine brK_mk (fun hb => ?_) (fun hb => ?_))
    | ((with_reducible refine And.intro ?_ ?_); focus (first | assumption | omega | (simp only [go_sem, reduceCtorEq]; done)))
    | ((with_reducible (first | refine rBodyZ ?_ | refine nBodyZ ?_ | refine rBodyQ ?_ | refine nBodyQ ?_)); simp only [go_sem, Nat.reduceAdd, Nat.reduceSub, Nat.reduceMul, Nat.reduceDiv, Nat.reduceMod, Nat.reduceLT, Nat.reduceLeDiff, Nat.reduceEqDiff, Nat.reduceBEq, Nat.reduceBNe, reduceCtorEq, Int.reduceLE, Int.reduceLT, Int.reduceNeg, Int.reduceToNat, Int.reduceAdd, Int.reduceSub, Int.reduceMul, Int.reduceBEq, Int.reduceBNe, Int.reduceEq]))
    refine ⟨one_vV B v 1 ks.length, ?_⟩
    repeat' (first
    | ((first | ((with_reducible refine awOps_move ?_ ?_); decide +kernel) | ((with_reducible refine awOps_load ?_ ?_); decide +kernel) | ((with_reducible refine awOps_one ?_ ?_); decide +kernel) | (with_reducible refine awOps_feed ?_) | ((with_reducible refine awOps_g ?_); refine awOps_guard rfl ?_) | ((with_reducible refine awT_one ?_ ?_); decide +kernel) | ((with_reducible refine awT_call ?_ ?_); decide +kernel) | ((with_reducible refine awT_g ?_); refine awT_guard rfl ?_) | ((with_reducible refine awU_one ?_ ?_); decide +kernel) | ((with_reducible refine awU_call ?_ ?_); decide +kernel) | ((with_reducible refine awU_g ?_); refine awU_guard rfl ?_) | (with_reducible refine AWp.condH ?_)); intro K Q' hK hQ; simp only [go_sem, Nat.reduceAdd, Nat.reduceSub, Nat.reduceMul, Nat.reduceDiv, Nat.reduceMod, Nat.reduceLT, Nat.reduceLeDiff, Nat.reduceEqDiff, Nat.reduceBEq, Nat.reduceBNe, reduceCtorEq, Int.reduceLE, Int.reduceLT, Int.reduceNeg, Int.reduceToNat, Int.reduceAdd, Int.reduceSub, Int.reduceMul, Int.reduceBEq, Int.reduceBNe, Int.reduceEq]; subst hK hQ)
    | ((with_reducible refine AWp.drawT Try.follows ?_ ?_); decide +kernel) | ((with_reducible refine AWp.drawU Try.follows ?_ ?_); decide +kernel)
    | with_reducible (first | refine awOps_end ?_ | refine awT_end ?_ | refine awU_end ?_ | refine nThen ?_ | refine putKn ?_ | refine nSuf ?_ | refine rThen ?_ | refine eThen ?_ | refine nBlock ?_ | refine eBlock ?_ | refine fBlock (by decide) ?_ | refine rBlock ?_ | refine nScope ?_ | refine eScope ?_ | refine rScope ?_ | refine AWp.seq ?_ | refine AWp.block ?_ | refine AWp.scope ?_ | refine AWp.text ?_ | refine AWp.skip ?_ | refine AWp.exit ?_ | refine AWp.ret ?_ | refine AWp.label ?_ | refine brK_T (by assumption) ?_ | refine brK_F (by assumption) ?_ | refine brK_mk (fun hb => ?_) (fun hb => ?_))
    | ((with_reducible refine And.intro ?_ ?_); focus (first | assumption | omega | (simp only [go_sem, reduceCtorEq]; done)))
    | ((with_reducible (first | refine rBodyZ ?_ | refine nBodyZ ?_ | refine rBodyQ ?_ | refine nBodyQ ?_)); simp only [go_sem, Nat.reduceAdd, Nat.reduceSub, Nat.reduceMul, Nat.reduceDiv, Nat.reduceMod, Nat.reduceLT, Nat.reduceLeDiff, Nat.reduceEqDiff, Nat.reduceBEq, Nat.reduceBNe, reduceCtorEq, Int.reduceLE, Int.reduceLT, Int.reduceNeg, Int.reduceToNat, Int.reduceAdd, Int.reduceSub, Int.reduceMul, Int.reduceBEq, Int.reduceBNe, Int.reduceEq]))
    refine appC.r ?_
    simp only [aappendM, asrc, go_sem, Nat.reduceAdd, Nat.reduceSub, Nat.reduceMul, Nat.reduceDiv, Nat.reduceMod, Nat.reduceLT, Nat.reduceLeDiff, Nat.reduceEqDiff, Nat.reduceBEq, Nat.reduceBNe, reduceCtorEq, Int.reduceLE, Int.reduceLT, Int.reduceNeg, Int.reduceToNat, Int.reduceAdd, Int.reduceSub, Int.reduceMul, Int.reduceBEq, Int.reduceBNe, Int.reduceEq]
    refine appM_box (by rw [hBl, hls]) hv (by omega) (by simp) (by rfl) (by omega) (by omega) (by rfl) fun v' hv' => ?_
    have hvp : vV B v' 1 (ks.length + 1) = .sm (B.length + v'.js.length) 0 (ks.length + 1) v'.cap 1 := rfl
    repeat' (first
    | ((first | ((with_reducible refine awOps_move ?_ ?_); decide +kernel) | ((with_reducible refine awOps_load ?_ ?_); decide +kernel) | ((with_reducible refine awOps_one ?_ ?_); decide +kernel) | (with_reducible refine awOps_feed ?_) | ((with_reducible refine awOps_g ?_); refine awOps_guard rfl ?_) | ((with_reducible refine awT_one ?_ ?_); decide +kernel) | ((with_reducible refine awT_call ?_ ?_); decide +kernel) | ((with_reducible refine awT_g ?_); refine awT_guard rfl ?_) | ((with_reducible refine awU_one ?_ ?_); decide +kernel) | ((with_reducible refine awU_call ?_ ?_); decide +kernel) | ((with_reducible refine awU_g ?_); refine awU_guard rfl ?_) | (with_reducible refine AWp.condH ?_)); intro K Q' hK hQ; simp only [hvp, go_sem, Nat.reduceAdd, Nat.reduceSub, Nat.reduceMul, Nat.reduceDiv, Nat.reduceMod, Nat.reduceLT, Nat.reduceLeDiff, Nat.reduceEqDiff, Nat.reduceBEq, Nat.reduceBNe, reduceCtorEq, Int.reduceLE, Int.reduceLT, Int.reduceNeg, Int.reduceToNat, Int.reduceAdd, Int.reduceSub, Int.reduceMul, Int.reduceBEq, Int.reduceBNe, Int.reduceEq]; subst hK hQ)
    | ((with_reducible refine AWp.drawT Try.follows ?_ ?_); decide +kernel) | ((with_reducible refine AWp.drawU Try.follows ?_ ?_); decide +kernel)
    | with_reducible (first | refine awOps_end ?_ | refine awT_end ?_ | refine awU_end ?_ | refine nThen ?_ | refine putKn ?_ | refine nSuf ?_ | refine rThen ?_ | refine eThen ?_ | refine nBlock ?_ | refine eBlock ?_ | refine fBlock (by decide) ?_ | refine rBlock ?_ | refine nScope ?_ | refine eScope ?_ | refine rScope ?_ | refine AWp.seq ?_ | refine AWp.block ?_ | refine AWp.scope ?_ | refine AWp.text ?_ | refine AWp.skip ?_ | refine AWp.exit ?_ | refine AWp.ret ?_ | refine AWp.label ?_ | refine brK_T (by assumption) ?_ | refine brK_F (by assumption) ?_ | refine brK_mk (fun hb => ?_) (fun hb => ?_))
    | ((with_reducible refine And.intro ?_ ?_); focus (first | assumption | omega | (simp only [go_sem, reduceCtorEq]; done)))
    | ((with_reducible (first | refine rBodyZ ?_ | refine nBodyZ ?_ | refine rBodyQ ?_ | refine nBodyQ ?_)); simp only [hvp, go_sem, Nat.reduceAdd, Nat.reduceSub, Nat.reduceMul, Nat.reduceDiv, Nat.reduceMod, Nat.reduceLT, Nat.reduceLeDiff, Nat.reduceEqDiff, Nat.reduceBEq, Nat.reduceBNe, reduceCtorEq, Int.reduceLE, Int.reduceLT, Int.reduceNeg, Int.reduceToNat, Int.reduceAdd, Int.reduceSub, Int.reduceMul, Int.reduceBEq, Int.reduceBNe, Int.reduceEq]))
    simp only [roundKQ]
    refine ⟨σ ++ [.cells [(vV B v' 1 (ks.length + 1))]], nwOf v' (ks.length + 1) (strs ks ++ [.s s]), by simp [vVs], by simp, v', ks ++ [s], by simp, by simpa using hv', by simp, by simp⟩
  · rintro dn p o ls nw hfl hp hls ⟨v, ks, rfl, hv, rfl, rfl⟩
    repeat' (first
    | ((first | ((with_reducible refine awOps_move ?_ ?_); decide +kernel) | ((with_reducible refine awOps_load ?_ ?_); decide +kernel) | ((with_reducible refine awOps_one ?_ ?_); decide +kernel) | (with_reducible refine awOps_feed ?_) | ((with_reducible refine awOps_g ?_); refine awOps_guard rfl ?_) | ((with_reducible refine awT_one ?_ ?_); decide +kernel) | ((with_reducible refine awT_call ?_ ?_); decide +kernel) | ((with_reducible refine awT_g ?_); refine awT_guard rfl ?_) | ((with_reducible refine awU_one ?_ ?_); decide +kernel) | ((with_reducible refine awU_call ?_ ?_); decide +kernel) | ((with_reducible refine awU_g ?_); refine awU_guard rfl ?_) | (with_reducible refine AWp.condH ?_)); intro K Q' hK hQ; simp only [go_sem, Nat.reduceAdd, Nat.reduceSub, Nat.reduceMul, Nat.reduceDiv, Nat.reduceMod, Nat.reduceLT, Nat.reduceLeDiff, Nat.reduceEqDiff, Nat.reduceBEq, Nat.reduceBNe, reduceCtorEq, Int.reduceLE, Int.reduceLT, Int.reduceNeg, Int.reduceToNat, Int.reduceAdd, Int.reduceSub, Int.reduceMul, Int.reduceBEq, Int.reduceBNe, Int.reduceEq]; subst hK hQ)
    | ((with_reducible refine AWp.drawT Try.follows ?_ ?_); decide +kernel) | ((with_reducible refine AWp.drawU Try.follows ?_ ?_); decide +kernel)
    | with_reducible (first | refine awOps_end ?_ | refine awT_end ?_ | refine awU_end ?_ | refine nThen ?_ | refine putKn ?_ | refine nSuf ?_ | refine rThen ?_ | refine eThen ?_ | refine nBlock ?_ | refine eBlock ?_ | refine fBlock (by decide) ?_ | refine rBlock ?_ | refine nScope ?_ | refine eScope ?_ | refine rScope ?_ | refine AWp.seq ?_ | refine AWp.block ?_ | refine AWp.scope ?_ | refine AWp.text ?_ | refine AWp.skip ?_ | refine AWp.exit ?_ | refine AWp.ret ?_ | refine AWp.label ?_ | refine brK_T (by assumption) ?_ | refine brK_F (by assumption) ?_ | refine brK_mk (fun hb => ?_) (fun hb => ?_))
    | ((with_reducible refine And.intro ?_ ?_); focus (first | assumption | omega | (simp only [go_sem, reduceCtorEq]; done)))
    | ((with_reducible (first | refine rBodyZ ?_ | refine nBodyZ ?_ | refine rBodyQ ?_ | refine nBodyQ ?_)); simp only [go_sem, Nat.reduceAdd, Nat.reduceSub, Nat.reduceMul, Nat.reduceDiv, Nat.reduceMod, Nat.reduceLT, Nat.reduceLeDiff, Nat.reduceEqDiff, Nat.reduceBEq, Nat.reduceBNe, reduceCtorEq, Int.reduceLE, Int.reduceLT, Int.reduceNeg, Int.reduceToNat, Int.reduceAdd, Int.reduceSub, Int.reduceMul, Int.reduceBEq, Int.reduceBNe, Int.reduceEq]))
    have hnt : (vV B v 1 ks.length).pl.nt = (vV B v 1 ks.length).pl := by cases ks.length <;> rfl
    refine ⟨.cells [vV B v 1 ks.length] :: o :: ls, v, ks, hfl, hv, by rw [vS_nw]; simp, ?_⟩
    rw [hnt, ← vV_len (B := B) (B' := σ ++ (.cells [vV B v 1 ks.length] :: o :: ls)) (by rw [hBl]; simp; omega)]

theorem collectK {f : FuncId} {fn : Func} {c : Code} {cap : List AV} {k N : Nat} {I : AState → Prop} {ok : List (List AV) → List AV → Prop} {full : List (List AV) → Prop} {σ : AState} (hf : Try.prog.funcs[f]? = some fn) (hb : fn.body = some c) (hng : (fn.name == "runtime.NumGoroutine") = false) (hit : IterK Try.prog G0 f (cap.map AV.pl) k I ok full)
    (hI : ∀ l, I (σ ++ l)) (hok : ∀ dn x, ok dn x → ∃ s, x = [.s s] ∧ dn.length < N) (hN : N ≤ 1099511627776) :
    ACalls Try.prog G0 42 [.fn f cap] σ fun r s => ∃ (js : AState) (v : VecG) (ks : List (List UInt8)), full (items ks) ∧ VOK v 1 ks.length (strs ks) ∧ s = vS (σ ++ js) v ks.length (strs ks) ∧ r = .ret (vV (σ ++ js) v 1 ks.length).pl := by
  refine ACalls.body G0_pl Try.func42 rfl (by rfl) (by decide) ?_; simp only [Try.ntmps42, List.replicate, go_sem, Nat.reduceAdd, Nat.reduceSub]
  repeat' (first
    | ((first | ((with_reducible refine awOps_move ?_ ?_); decide +kernel) | ((with_reducible refine awOps_load ?_ ?_); decide +kernel) | ((with_reducible refine awOps_one ?_ ?_); decide +kernel) | (with_reducible refine awOps_feed ?_) | ((with_reducible refine awOps_g ?_); refine awOps_guard rfl ?_) | ((with_reducible refine awT_one ?_ ?_); decide +kernel) | ((with_reducible refine awT_call ?_ ?_); decide +kernel) | ((with_reducible refine awT_g ?_); refine awT_guard rfl ?_) | ((with_reducible refine awU_one ?_ ?_); decide +kernel) | ((with_reducible refine awU_call ?_ ?_); decide +kernel) | ((with_reducible refine awU_g ?_); refine awU_guard rfl ?_) | (with_reducible refine AWp.condH ?_)); intro K Q' hK hQ; simp only [go_sem, Nat.reduceAdd, Nat.reduceSub, Nat.reduceMul, Nat.reduceDiv, Nat.reduceMod, Nat.reduceLT, Nat.reduceLeDiff, Nat.reduceEqDiff, Nat.reduceBEq, Nat.reduceBNe, reduceCtorEq, Int.reduceLE, Int.reduceLT, Int.reduceNeg, Int.reduceToNat, Int.reduceAdd, Int.reduceSub, Int.reduceMul, Int.reduceBEq, Int.reduceBNe, Int.reduceEq]; subst hK hQ)
    | ((with_reducible refine AWp.drawT Try.follows ?_ ?_); decide +kernel) | ((with_reducible refine AWp.drawU Try.follows ?_ ?_); decide +kernel)
    | with_reducible (first | refine awOps_end ?_ | refine awT_end ?_ | refine awU_end ?_ | refine nThen ?_ | refine putKn ?_ | refine nSuf ?_ | refine rThen ?_ | refine eThen ?_ | refine nBlock ?_ | refine eBlock ?_ | refine fBlock (by decide) ?_ | refine rBlock ?_ | refine nScope ?_ | refine eScope ?_ | refine rScope ?_ | refine AWp.seq ?_ | refine AWp.block ?_ | refine AWp.scope ?_ | refine AWp.text ?_ | refine AWp.skip ?_ | refine AWp.exit ?_ | refine AWp.ret ?_ | refine AWp.label ?_ | refine brK_T (by assumption) ?_ | refine brK_F (by assumption) ?_ | refine brK_mk (fun hb => ?_) (fun hb => ?_))
    | ((with_reducible refine And.intro ?_ ?_); focus (first | assumption | omega | (simp only [go_sem, reduceCtorEq]; done)))
    | ((with_reducible (first | refine rBodyZ ?_ | refine nBodyZ ?_ | refine rBodyQ ?_ | refine nBodyQ ?_)); simp only [go_sem, Nat.reduceAdd, Nat.reduceSub, Nat.reduceMul, Nat.reduceDiv, Nat.reduceMod, Nat.reduceLT, Nat.reduceLeDiff, Nat.reduceEqDiff, Nat.reduceBEq, Nat.reduceBNe, reduceCtorEq, Int.reduceLE, Int.reduceLT, Int.reduceNeg, Int.reduceToNat, Int.reduceAdd, Int.reduceSub, Int.reduceMul, Int.reduceBEq, Int.reduceBNe, Int.reduceEq]))
  refine (appendSeqK hf hb hng hit hI hok hN).mono ?_
  rintro r s ⟨js, v, ks, h1, h2, rfl, rfl⟩
  simp only [callK, go_sem]
  repeat' (first
    | ((first | ((with_reducible refine awOps_move ?_ ?_); decide +kernel) | ((with_reducible refine awOps_load ?_ ?_); decide +kernel) | ((with_reducible refine awOps_one ?_ ?_); decide +kernel) | (with_reducible refine awOps_feed ?_) | ((with_reducible refine awOps_g ?_); refine awOps_guard rfl ?_) | ((with_reducible refine awT_one ?_ ?_); decide +kernel) | ((with_reducible refine awT_call ?_ ?_); decide +kernel) | ((with_reducible refine awT_g ?_); refine awT_guard rfl ?_) | ((with_reducible refine awU_one ?_ ?_); decide +kernel) | ((with_reducible refine awU_call ?_ ?_); decide +kernel) | ((with_reducible refine awU_g ?_); refine awU_guard rfl ?_) | (with_reducible refine AWp.condH ?_)); intro K Q' hK hQ; simp only [go_sem, Nat.reduceAdd, Nat.reduceSub, Nat.reduceMul, Nat.reduceDiv, Nat.reduceMod, Nat.reduceLT, Nat.reduceLeDiff, Nat.reduceEqDiff, Nat.reduceBEq, Nat.reduceBNe, reduceCtorEq, Int.reduceLE, Int.reduceLT, Int.reduceNeg, Int.reduceToNat, Int.reduceAdd, Int.reduceSub, Int.reduceMul, Int.reduceBEq, Int.reduceBNe, Int.reduceEq]; subst hK hQ)
    | ((with_reducible refine AWp.drawT Try.follows ?_ ?_); decide +kernel) | ((with_reducible refine AWp.drawU Try.follows ?_ ?_); decide +kernel)
    | with_reducible (first | refine awOps_end ?_ | refine awT_end ?_ | refine awU_end ?_ | refine nThen ?_ | refine putKn ?_ | refine nSuf ?_ | refine rThen ?_ | refine eThen ?_ | refine nBlock ?_ | refine eBlock ?_ | refine fBlock (by decide) ?_ | refine rBlock ?_ | refine nScope ?_ | refine eScope ?_ | refine rScope ?_ | refine AWp.seq ?_ | refine AWp.block ?_ | refine AWp.scope ?_ | refine AWp.text ?_ | refine AWp.skip ?_ | refine AWp.exit ?_ | refine AWp.ret ?_ | refine AWp.label ?_ | refine brK_T (by assumption) ?_ | refine brK_F (by assumption) ?_ | refine brK_mk (fun hb => ?_) (fun hb => ?_))
    | ((with_reducible refine And.intro ?_ ?_); focus (first | assumption | omega | (simp only [go_sem, reduceCtorEq]; done)))
    | ((with_reducible (first | refine rBodyZ ?_ | refine nBodyZ ?_ | refine rBodyQ ?_ | refine nBodyQ ?_)); simp only [go_sem, Nat.reduceAdd, Nat.reduceSub, Nat.reduceMul, Nat.reduceDiv, Nat.reduceMod, Nat.reduceLT, Nat.reduceLeDiff, Nat.reduceEqDiff, Nat.reduceBEq, Nat.reduceBNe, reduceCtorEq, Int.reduceLE, Int.reduceLT, Int.reduceNeg, Int.reduceToNat, Int.reduceAdd, Int.reduceSub, Int.reduceMul, Int.reduceBEq, Int.reduceBNe, Int.reduceEq]))
  have hnt : (vV (σ ++ js) v 1 ks.length).pl.nt = (vV (σ ++ js) v 1 ks.length).pl := by cases ks.length <;> rfl
  exact ⟨js, v, ks, h1, h2, rfl, by rw [hnt]⟩

end Go.Proofs.Ytoofpdmdgofdcaa.L

namespace Go.Proofs
open Go.Shelf
def _root_.Go.Proofs.Try.lays190_ren : Go.Shelf.Ren := ⟨fun | 190 => 43 | 125 => 48 | 258 => 47 | 128 => 58 | 129 => 59 | 302 => 49 | 303 => 50 | 304 => 51 | 305 => 52 | 306 => 53 | 307 => 54 | 308 => 55 | 309 => 56 | 310 => 57 | 333 => 60 | 329 => 61 | 330 => 62 | 334 => 63 | 335 => 64 | 336 => 65 | 344 => 66 | n => n, fun | 31 => 62 | 9 => 9 | 3 => 3 | 46 => 82 | 0 => 0 | 51 => 93 | 53 => 95 | 4 => 4 | 183 => 85 | 182 => 84 | 131 => 90 | 5 => 5 | 218 => 96 | 222 => 100 | 228 => 102 | 229 => 103 | n => n, fun | n => n⟩
theorem _root_.Go.Proofs.Try.lays190 : Go.Proofs.Lays.n190 Try.prog Try.lays190_ren := {
  mixed := by kernel_rfl,
  f125 := Try.func48.trans (congrArg some (by kernel_rfl)),
  f128 := Try.func58.trans (congrArg some (by kernel_rfl)),
  f129 := Try.func59.trans (congrArg some (by kernel_rfl)),
  f190 := Try.func43.trans (congrArg some (by kernel_rfl)),
  f258 := Try.func47.trans (congrArg some (by kernel_rfl)),
  f302 := Try.func49.trans (congrArg some (by kernel_rfl)),
  f303 := Try.func50.trans (congrArg some (by kernel_rfl)),
  f304 := Try.func51.trans (congrArg some (by kernel_rfl)),
  f305 := Try.func52.trans (congrArg some (by kernel_rfl)),
  f306 := Try.func53.trans (congrArg some (by kernel_rfl)),
  f307 := Try.func54.trans (congrArg some (by kernel_rfl)),
  f308 := Try.func55.trans (congrArg some (by kernel_rfl)),
  f309 := Try.func56.trans (congrArg some (by kernel_rfl)),
  f310 := Try.func57.trans (congrArg some (by kernel_rfl)),
  f329 := Try.func61.trans (congrArg some (by kernel_rfl)),
  f330 := Try.func62.trans (congrArg some (by kernel_rfl)),
  f333 := Try.func60.trans (congrArg some (by kernel_rfl)),
  f334 := Try.func63.trans (congrArg some (by kernel_rfl)),
  f335 := Try.func64.trans (congrArg some (by kernel_rfl)),
  f336 := Try.func65.trans (congrArg some (by kernel_rfl)),
  f344 := Try.func66.trans (congrArg some (by kernel_rfl)),
  t0 := Try.underlying0,
  a0 := Try.isAgg0,
  z0 := Try.sizeOf0,
  v0 := Try.zeroValue0,
  t3 := Try.underlying3,
  a3 := Try.isAgg3,
  z3 := Try.sizeOf3,
  v3 := Try.zeroValue3,
  t4 := Try.underlying4,
  a4 := Try.isAgg4,
  z4 := Try.sizeOf4,
  v4 := Try.zeroValue4,
  t5 := Try.underlying5,
  a5 := Try.isAgg5,
  z5 := Try.sizeOf5,
  v5 := Try.zeroValue5,
  t9 := Try.underlying9,
  a9 := Try.isAgg9,
  z9 := Try.sizeOf9,
  v9 := Try.zeroValue9,
  t31 := Try.underlying62,
  a31 := Try.isAgg62,
  z31 := Try.sizeOf62,
  v31 := Try.zeroValue62,
  t46 := Try.underlying82,
  a46 := Try.isAgg82,
  z46 := Try.sizeOf82,
  v46 := Try.zeroValue82,
  t51 := Try.underlying93,
  a51 := Try.isAgg93,
  z51 := Try.sizeOf93,
  v51 := Try.zeroValue93,
  t53 := Try.underlying95,
  a53 := Try.isAgg95,
  z53 := Try.sizeOf95,
  v53 := Try.zeroValue95,
  t131 := Try.underlying90,
  a131 := Try.isAgg90,
  z131 := Try.sizeOf90,
  v131 := Try.zeroValue90,
  t182 := Try.underlying84,
  a182 := Try.isAgg84,
  z182 := Try.sizeOf84,
  v182 := Try.zeroValue84,
  t183 := Try.underlying85,
  a183 := Try.isAgg85,
  z183 := Try.sizeOf85,
  v183 := Try.zeroValue85,
  t218 := Try.underlying96,
  a218 := Try.isAgg96,
  z218 := Try.sizeOf96,
  v218 := Try.zeroValue96,
  t222 := Try.underlying100,
  a222 := Try.isAgg100,
  z222 := Try.sizeOf100,
  v222 := Try.zeroValue100,
  t228 := Try.underlying102,
  a228 := Try.isAgg102,
  z228 := Try.sizeOf102,
  v228 := Try.zeroValue102,
  t229 := Try.underlying103,
  a229 := Try.isAgg103,
  z229 := Try.sizeOf103,
  v229 := Try.zeroValue103 }

end Go.Proofs
namespace Go.Proofs.Ytoofpdmdgofdcaa.L
open Go Go.RowKit Go.Proofs.Ytoofpdmdgofdcaa.E
set_option linter.unusedVariables false
set_option linter.unusedSimpArgs false
set_option maxRecDepth 10000
set_option maxHeartbeats 1000000
def leB (x y : List UInt8) : Bool := decide (x ≤ y)
theorem sort_nil {o : Ow} (σ : AState) : ACalls Try.prog G0 43 [.sl o 0 []] σ (retIs (.tup []) σ) :=
  sort_strings_nil Try.func43 rfl (by rfl) (fun p cap w => Any.slices_Sort_string_none Try.lays190 p cap w)
theorem sort_some {id off cap : Nat} {cs : List AV} {ss : List (List UInt8)} {σ : AState} (ho : σ[id]? = some (.cells cs)) (hc : ∀ (j : Nat) s, ss[j]? = some s → cs[off + j]? = some (.s s)) :
    ACalls Try.prog G0 43 [.sm id off ss.length cap 1] σ (retIs (.tup []) (σ.set id (.cells (setN cs off ((ss.mergeSort fun x y => decide (x ≤ y)).map AV.s))))) :=
  sort_strings Try.func43 rfl (by rfl) (fun blk off cap ss w h1 h2 h3 => Any.slices_Sort_string Try.lays190 blk off cap ss w h1 h2 h3) ho hc

theorem sortedK {f : FuncId} {fn : Func} {c : Code} {cap : List AV} {k N : Nat} {I : AState → Prop} {ok : List (List AV) → List AV → Prop} {full : List (List AV) → Prop} {σ : AState} (hf : Try.prog.funcs[f]? = some fn) (hb : fn.body = some c) (hng : (fn.name == "runtime.NumGoroutine") = false) (hit : IterK Try.prog G0 f (cap.map AV.pl) k I ok full)
    (hI : ∀ l, I (σ ++ l)) (hok : ∀ dn x, ok dn x → ∃ s, x = [.s s] ∧ dn.length < N) (hN : N ≤ 1099511627776) :
    ACalls Try.prog G0 37 [.fn f cap] σ fun r s => ∃ ks : List (List UInt8), full (items ks) ∧ r = .ret (.sl .no ks.length (strs (ks.mergeSort fun x y => decide (x ≤ y)))) ∧ s = σ := by
  refine ACalls.bodyZ G0_pl Try.func37 rfl (by rfl) (by decide) ?_; simp only [Try.ntmps37, List.replicate, go_sem, Nat.reduceAdd, Nat.reduceSub]
  repeat' (first
    | ((first | ((with_reducible refine awOps_move ?_ ?_); decide +kernel) | ((with_reducible refine awOps_load ?_ ?_); decide +kernel) | ((with_reducible refine awOps_one ?_ ?_); decide +kernel) | (with_reducible refine awOps_feed ?_) | ((with_reducible refine awOps_g ?_); refine awOps_guard rfl ?_) | ((with_reducible refine awT_one ?_ ?_); decide +kernel) | ((with_reducible refine awT_call ?_ ?_); decide +kernel) | ((with_reducible refine awT_g ?_); refine awT_guard rfl ?_) | ((with_reducible refine awU_one ?_ ?_); decide +kernel) | ((with_reducible refine awU_call ?_ ?_); decide +kernel) | ((with_reducible refine awU_g ?_); refine awU_guard rfl ?_) | (with_reducible refine AWp.condH ?_)); intro K Q' hK hQ; simp only [go_sem, Nat.reduceAdd, Nat.reduceSub, Nat.reduceMul, Nat.reduceDiv, Nat.reduceMod, Nat.reduceLT, Nat.reduceLeDiff, Nat.reduceEqDiff, Nat.reduceBEq, Nat.reduceBNe, reduceCtorEq, Int.reduceLE, Int.reduceLT, Int.reduceNeg, Int.reduceToNat, Int.reduceAdd, Int.reduceSub, Int.reduceMul, Int.reduceBEq, Int.reduceBNe, Int.reduceEq]; subst hK hQ)
    | ((with_reducible refine AWp.drawT Try.follows ?_ ?_); decide +kernel) | ((with_reducible refine AWp.drawU Try.follows ?_ ?_); decide +kernel)
    | with_reducible (first | refine awOps_end ?_ | refine awT_end ?_ | refine awU_end ?_ | refine nThen ?_ | refine putKn ?_ | refine nSuf ?_ | refine rThen ?_ | refine eThen ?_ | refine nBlock ?_ | refine eBlock ?_ | refine fBlock (by decide) ?_ | refine rBlock ?_ | refine nScope ?_ | refine eScope ?_ | refine rScope ?_ | refine AWp.seq ?_ | refine AWp.block ?_ | refine AWp.scope ?_ | refine AWp.text ?_ | refine AWp.skip ?_ | refine AWp.exit ?_ | refine AWp.ret ?_ | refine AWp.label ?_ | refine brK_T (by assumption) ?_ | refine brK_F (by assumption) ?_ | refine brK_mk (fun hb => ?_) (fun hb => ?_))
    | ((with_reducible refine And.intro ?_ ?_); focus (first | assumption | omega | (simp only [go_sem, reduceCtorEq]; done)))
    | ((with_reducible (first | refine rBodyZ ?_ | refine nBodyZ ?_ | refine rBodyQ ?_ | refine nBodyQ ?_)); simp only [go_sem, Nat.reduceAdd, Nat.reduceSub, Nat.reduceMul, Nat.reduceDiv, Nat.reduceMod, Nat.reduceLT, Nat.reduceLeDiff, Nat.reduceEqDiff, Nat.reduceBEq, Nat.reduceBNe, reduceCtorEq, Int.reduceLE, Int.reduceLT, Int.reduceNeg, Int.reduceToNat, Int.reduceAdd, Int.reduceSub, Int.reduceMul, Int.reduceBEq, Int.reduceBNe, Int.reduceEq]))
  refine (collectK hf hb hng hit hI hok hN).mono ?_
  rintro r s ⟨js, v, ks, h1, h2, rfl, rfl⟩
  simp only [callK, go_sem]
  cases ks with
  | nil =>
    simp only [vV0, vS, List.length_nil, go_sem, Nat.reduceAdd, Nat.reduceSub, Nat.reduceMul, Nat.reduceDiv, Nat.reduceMod, Nat.reduceLT, Nat.reduceLeDiff, Nat.reduceEqDiff, Nat.reduceBEq, Nat.reduceBNe, reduceCtorEq, Int.reduceLE, Int.reduceLT, Int.reduceNeg, Int.reduceToNat, Int.reduceAdd, Int.reduceSub, Int.reduceMul, Int.reduceBEq, Int.reduceBNe, Int.reduceEq]
    repeat' (first
    | ((first | ((with_reducible refine awOps_move ?_ ?_); decide +kernel) | ((with_reducible refine awOps_load ?_ ?_); decide +kernel) | ((with_reducible refine awOps_one ?_ ?_); decide +kernel) | (with_reducible refine awOps_feed ?_) | ((with_reducible refine awOps_g ?_); refine awOps_guard rfl ?_) | ((with_reducible refine awT_one ?_ ?_); decide +kernel) | ((with_reducible refine awT_call ?_ ?_); decide +kernel) | ((with_reducible refine awT_g ?_); refine awT_guard rfl ?_) | ((with_reducible refine awU_one ?_ ?_); decide +kernel) | ((with_reducible refine awU_call ?_ ?_); decide +kernel) | ((with_reducible refine awU_g ?_); refine awU_guard rfl ?_) | (with_reducible refine AWp.condH ?_)); intro K Q' hK hQ; simp only [go_sem, Nat.reduceAdd, Nat.reduceSub, Nat.reduceMul, Nat.reduceDiv, Nat.reduceMod, Nat.reduceLT, Nat.reduceLeDiff, Nat.reduceEqDiff, Nat.reduceBEq, Nat.reduceBNe, reduceCtorEq, Int.reduceLE, Int.reduceLT, Int.reduceNeg, Int.reduceToNat, Int.reduceAdd, Int.reduceSub, Int.reduceMul, Int.reduceBEq, Int.reduceBNe, Int.reduceEq]; subst hK hQ)
    | ((with_reducible refine AWp.drawT Try.follows ?_ ?_); decide +kernel) | ((with_reducible refine AWp.drawU Try.follows ?_ ?_); decide +kernel)
    | with_reducible (first | refine awOps_end ?_ | refine awT_end ?_ | refine awU_end ?_ | refine nThen ?_ | refine putKn ?_ | refine nSuf ?_ | refine rThen ?_ | refine eThen ?_ | refine nBlock ?_ | refine eBlock ?_ | refine fBlock (by decide) ?_ | refine rBlock ?_ | refine nScope ?_ | refine eScope ?_ | refine rScope ?_ | refine AWp.seq ?_ | refine AWp.block ?_ | refine AWp.scope ?_ | refine AWp.text ?_ | refine AWp.skip ?_ | refine AWp.exit ?_ | refine AWp.ret ?_ | refine AWp.label ?_ | refine brK_T (by assumption) ?_ | refine brK_F (by assumption) ?_ | refine brK_mk (fun hb => ?_) (fun hb => ?_))
    | ((with_reducible refine And.intro ?_ ?_); focus (first | assumption | omega | (simp only [go_sem, reduceCtorEq]; done)))
    | ((with_reducible (first | refine rBodyZ ?_ | refine nBodyZ ?_ | refine rBodyQ ?_ | refine nBodyQ ?_)); simp only [go_sem, Nat.reduceAdd, Nat.reduceSub, Nat.reduceMul, Nat.reduceDiv, Nat.reduceMod, Nat.reduceLT, Nat.reduceLeDiff, Nat.reduceEqDiff, Nat.reduceBEq, Nat.reduceBNe, reduceCtorEq, Int.reduceLE, Int.reduceLT, Int.reduceNeg, Int.reduceToNat, Int.reduceAdd, Int.reduceSub, Int.reduceMul, Int.reduceBEq, Int.reduceBNe, Int.reduceEq]))
    refine ACalls.use (sort_nil _) ?_
    repeat' (first
    | ((first | ((with_reducible refine awOps_move ?_ ?_); decide +kernel) | ((with_reducible refine awOps_load ?_ ?_); decide +kernel) | ((with_reducible refine awOps_one ?_ ?_); decide +kernel) | (with_reducible refine awOps_feed ?_) | ((with_reducible refine awOps_g ?_); refine awOps_guard rfl ?_) | ((with_reducible refine awT_one ?_ ?_); decide +kernel) | ((with_reducible refine awT_call ?_ ?_); decide +kernel) | ((with_reducible refine awT_g ?_); refine awT_guard rfl ?_) | ((with_reducible refine awU_one ?_ ?_); decide +kernel) | ((with_reducible refine awU_call ?_ ?_); decide +kernel) | ((with_reducible refine awU_g ?_); refine awU_guard rfl ?_) | (with_reducible refine AWp.condH ?_)); intro K Q' hK hQ; simp only [go_sem, Nat.reduceAdd, Nat.reduceSub, Nat.reduceMul, Nat.reduceDiv, Nat.reduceMod, Nat.reduceLT, Nat.reduceLeDiff, Nat.reduceEqDiff, Nat.reduceBEq, Nat.reduceBNe, reduceCtorEq, Int.reduceLE, Int.reduceLT, Int.reduceNeg, Int.reduceToNat, Int.reduceAdd, Int.reduceSub, Int.reduceMul, Int.reduceBEq, Int.reduceBNe, Int.reduceEq]; subst hK hQ)
    | ((with_reducible refine AWp.drawT Try.follows ?_ ?_); decide +kernel) | ((with_reducible refine AWp.drawU Try.follows ?_ ?_); decide +kernel)
    | with_reducible (first | refine awOps_end ?_ | refine awT_end ?_ | refine awU_end ?_ | refine nThen ?_ | refine putKn ?_ | refine nSuf ?_ | refine rThen ?_ | refine eThen ?_ | refine nBlock ?_ | refine eBlock ?_ | refine fBlock (by decide) ?_ | refine rBlock ?_ | refine nScope ?_ | refine eScope ?_ | refine rScope ?_ | refine AWp.seq ?_ | refine AWp.block ?_ | refine AWp.scope ?_ | refine AWp.text ?_ | refine AWp.skip ?_ | refine AWp.exit ?_ | refine AWp.ret ?_ | refine AWp.label ?_ | refine brK_T (by assumption) ?_ | refine brK_F (by assumption) ?_ | refine brK_mk (fun hb => ?_) (fun hb => ?_))
    | ((with_reducible refine And.intro ?_ ?_); focus (first | assumption | omega | (simp only [go_sem, reduceCtorEq]; done)))
    | ((with_reducible (first | refine rBodyZ ?_ | refine nBodyZ ?_ | refine rBodyQ ?_ | refine nBodyQ ?_)); simp only [go_sem, Nat.reduceAdd, Nat.reduceSub, Nat.reduceMul, Nat.reduceDiv, Nat.reduceMod, Nat.reduceLT, Nat.reduceLeDiff, Nat.reduceEqDiff, Nat.reduceBEq, Nat.reduceBNe, reduceCtorEq, Int.reduceLE, Int.reduceLT, Int.reduceNeg, Int.reduceToNat, Int.reduceAdd, Int.reduceSub, Int.reduceMul, Int.reduceBEq, Int.reduceBNe, Int.reduceEq]))
    exact ⟨[], h1, by simp⟩
  | cons a ks =>
    obtain ⟨vjs, vcap, junk⟩ := v
    generalize hks : a :: ks = l at *
    have hl0 : 0 < l.length := by rw [← hks]; simp
    rw [vV_pos hl0, vS_pos hl0]
    simp only
    have hid : (σ ++ js).length + vjs.length = (σ ++ (js ++ vjs)).length := by simp; omega
    have hst : ∀ cs, σ ++ js ++ (vjs ++ [AObj.cells cs]) = (σ ++ (js ++ vjs)) ++ [.cells cs] := fun cs => by simp
    rw [hid, hst]
    generalize hτ : σ ++ (js ++ vjs) = τ
    have hτl : σ.length ≤ τ.length := by rw [← hτ]; simp
    have hτt : τ.take σ.length = σ := by rw [← hτ]; exact List.take_left
    have hget : (τ ++ [AObj.cells (strs l ++ junk)])[τ.length]? = some (.cells (strs l ++ junk)) := by simp
    have hls : (strs l).length = l.length := by simp
    repeat' (first
    | ((first | ((with_reducible refine awOps_move ?_ ?_); decide +kernel) | ((with_reducible refine awOps_load ?_ ?_); decide +kernel) | ((with_reducible refine awOps_one ?_ ?_); decide +kernel) | (with_reducible refine awOps_feed ?_) | ((with_reducible refine awOps_g ?_); refine awOps_guard rfl ?_) | ((with_reducible refine awT_one ?_ ?_); decide +kernel) | ((with_reducible refine awT_call ?_ ?_); decide +kernel) | ((with_reducible refine awT_g ?_); refine awT_guard rfl ?_) | ((with_reducible refine awU_one ?_ ?_); decide +kernel) | ((with_reducible refine awU_call ?_ ?_); decide +kernel) | ((with_reducible refine awU_g ?_); refine awU_guard rfl ?_) | (with_reducible refine AWp.condH ?_)); intro K Q' hK hQ; simp only [go_sem, Nat.reduceAdd, Nat.reduceSub, Nat.reduceMul, Nat.reduceDiv, Nat.reduceMod, Nat.reduceLT, Nat.reduceLeDiff, Nat.reduceEqDiff, Nat.reduceBEq, Nat.reduceBNe, reduceCtorEq, Int.reduceLE, Int.reduceLT, Int.reduceNeg, Int.reduceToNat, Int.reduceAdd, Int.reduceSub, Int.reduceMul, Int.reduceBEq, Int.reduceBNe, Int.reduceEq]; subst hK hQ)
    | ((with_reducible refine AWp.drawT Try.follows ?_ ?_); decide +kernel) | ((with_reducible refine AWp.drawU Try.follows ?_ ?_); decide +kernel)
    | with_reducible (first | refine awOps_end ?_ | refine awT_end ?_ | refine awU_end ?_ | refine nThen ?_ | refine putKn ?_ | refine nSuf ?_ | refine rThen ?_ | refine eThen ?_ | refine nBlock ?_ | refine eBlock ?_ | refine fBlock (by decide) ?_ | refine rBlock ?_ | refine nScope ?_ | refine eScope ?_ | refine rScope ?_ | refine AWp.seq ?_ | refine AWp.block ?_ | refine AWp.scope ?_ | refine AWp.text ?_ | refine AWp.skip ?_ | refine AWp.exit ?_ | refine AWp.ret ?_ | refine AWp.label ?_ | refine brK_T (by assumption) ?_ | refine brK_F (by assumption) ?_ | refine brK_mk (fun hb => ?_) (fun hb => ?_))
    | ((with_reducible refine And.intro ?_ ?_); focus (first | assumption | omega | (simp only [go_sem, reduceCtorEq]; done)))
    | ((with_reducible (first | refine rBodyZ ?_ | refine nBodyZ ?_ | refine rBodyQ ?_ | refine nBodyQ ?_)); simp only [go_sem, Nat.reduceAdd, Nat.reduceSub, Nat.reduceMul, Nat.reduceDiv, Nat.reduceMod, Nat.reduceLT, Nat.reduceLeDiff, Nat.reduceEqDiff, Nat.reduceBEq, Nat.reduceBNe, reduceCtorEq, Int.reduceLE, Int.reduceLT, Int.reduceNeg, Int.reduceToNat, Int.reduceAdd, Int.reduceSub, Int.reduceMul, Int.reduceBEq, Int.reduceBNe, Int.reduceEq]))
    refine (sort_some (ss := l) hget (fun j s hj => by rw [Nat.zero_add, List.getElem?_append_left (by simp; exact (List.getElem?_eq_some_iff.1 hj).1)]; simp [hj])).mono ?_
    rintro r s ⟨rfl, rfl⟩
    simp only [callK, go_sem]
    have hset : ∀ x, (τ ++ [AObj.cells (strs l ++ junk)]).set τ.length x = τ ++ [x] := fun x => by simp
    have hms : (l.mergeSort fun x y => decide (x ≤ y)).length = l.length := List.length_mergeSort _
    generalize hm : (l.mergeSort fun x y => decide (x ≤ y)) = ms at *
    have hcs : List.take l.length (List.drop 0 (setN (strs l ++ junk) 0 (List.map AV.s ms))) = strs ms := by
      apply List.ext_getElem?
      intro i
      rw [List.drop_zero, List.getElem?_take, setN_get _ _ _ _ (by simp; omega)]
      simp only [List.length_map, Nat.zero_le, true_and, Nat.zero_add, Nat.sub_zero]
      by_cases hi : i < l.length
      · rw [if_pos hi, if_pos (by omega)]
      · rw [if_neg hi, List.getElem?_eq_none (by simp; omega)]
    have hget2 : ∀ cs, (τ ++ [AObj.cells cs])[τ.length]? = some (.cells cs) := fun cs => by simp
    have hnlt : ¬ (τ.length < σ.length) := by omega
    repeat' (first
    | ((first | ((with_reducible refine awOps_move ?_ ?_); decide +kernel) | ((with_reducible refine awOps_load ?_ ?_); decide +kernel) | ((with_reducible refine awOps_one ?_ ?_); decide +kernel) | (with_reducible refine awOps_feed ?_) | ((with_reducible refine awOps_g ?_); refine awOps_guard rfl ?_) | ((with_reducible refine awT_one ?_ ?_); decide +kernel) | ((with_reducible refine awT_call ?_ ?_); decide +kernel) | ((with_reducible refine awT_g ?_); refine awT_guard rfl ?_) | ((with_reducible refine awU_one ?_ ?_); decide +kernel) | ((with_reducible refine awU_call ?_ ?_); decide +kernel) | ((with_reducible refine awU_g ?_); refine awU_guard rfl ?_) | (with_reducible refine AWp.condH ?_)); intro K Q' hK hQ; simp only [hset, go_sem, Nat.reduceAdd, Nat.reduceSub, Nat.reduceMul, Nat.reduceDiv, Nat.reduceMod, Nat.reduceLT, Nat.reduceLeDiff, Nat.reduceEqDiff, Nat.reduceBEq, Nat.reduceBNe, reduceCtorEq, Int.reduceLE, Int.reduceLT, Int.reduceNeg, Int.reduceToNat, Int.reduceAdd, Int.reduceSub, Int.reduceMul, Int.reduceBEq, Int.reduceBNe, Int.reduceEq]; subst hK hQ)
    | ((with_reducible refine AWp.drawT Try.follows ?_ ?_); decide +kernel) | ((with_reducible refine AWp.drawU Try.follows ?_ ?_); decide +kernel)
    | with_reducible (first | refine awOps_end ?_ | refine awT_end ?_ | refine awU_end ?_ | refine nThen ?_ | refine putKn ?_ | refine nSuf ?_ | refine rThen ?_ | refine eThen ?_ | refine nBlock ?_ | refine eBlock ?_ | refine fBlock (by decide) ?_ | refine rBlock ?_ | refine nScope ?_ | refine eScope ?_ | refine rScope ?_ | refine AWp.seq ?_ | refine AWp.block ?_ | refine AWp.scope ?_ | refine AWp.text ?_ | refine AWp.skip ?_ | refine AWp.exit ?_ | refine AWp.ret ?_ | refine AWp.label ?_ | refine brK_T (by assumption) ?_ | refine brK_F (by assumption) ?_ | refine brK_mk (fun hb => ?_) (fun hb => ?_))
    | ((with_reducible refine And.intro ?_ ?_); focus (first | assumption | omega | (simp only [go_sem, reduceCtorEq]; done)))
    | ((with_reducible (first | refine rBodyZ ?_ | refine nBodyZ ?_ | refine rBodyQ ?_ | refine nBodyQ ?_)); simp only [hset, go_sem, Nat.reduceAdd, Nat.reduceSub, Nat.reduceMul, Nat.reduceDiv, Nat.reduceMod, Nat.reduceLT, Nat.reduceLeDiff, Nat.reduceEqDiff, Nat.reduceBEq, Nat.reduceBNe, reduceCtorEq, Int.reduceLE, Int.reduceLT, Int.reduceNeg, Int.reduceToNat, Int.reduceAdd, Int.reduceSub, Int.reduceMul, Int.reduceBEq, Int.reduceBNe, Int.reduceEq]))
    have htk : ∀ x, List.take σ.length (τ ++ x) = σ := fun x => by rw [List.take_append_of_le_length hτl]; exact hτt
    have hcl : cleanL σ.length (strs ms) = true := by
      refine cleanL_iff.2 fun j c hc => ?_
      simp only [List.getElem?_map, Option.map_eq_some_iff] at hc
      obtain ⟨s, _, rfl⟩ := hc
      rfl
    simp only [htk, if_neg hnlt, hcs, nt_sl]
    refine ⟨trivial, hcl, l, h1, ?_⟩
    rw [hm]
end Go.Proofs.Ytoofpdmdgofdcaa.L

namespace Go.Proofs.Ytoofpdmdgofdcaa.L
open Go Go.RowKit Go.Proofs.Ytoofpdmdgofdcaa.E
set_option linter.unusedVariables false
set_option linter.unusedSimpArgs false
def encR (r : PRec) : List AV := [.s r.1, .s r.2]
def encRs (l : List PRec) : List AV := l.flatMap encR
theorem encRs_len (l : List PRec) : (encRs l).length = 2 * l.length := by
  induction l with
  | nil => rfl
  | cons a r ih => simp only [encRs, List.flatMap_cons, List.length_append] at *; simp [encR, ih]; omega
theorem encRs_app (l m : List PRec) : encRs (l ++ m) = encRs l ++ encRs m := by simp [encRs]
theorem encRs_get : ∀ (l : List PRec) (k : Nat) (r : PRec), l[k]? = some r → (encRs l)[k * 2]? = some (.s r.1) ∧ (encRs l)[k * 2 + 1]? = some (.s r.2)
  | [], k, r, h => by simp at h
  | a :: l, 0, r, h => by simp at h; subst h; exact ⟨rfl, rfl⟩
  | a :: l, k + 1, r, h => by
    have := encRs_get l k r (by simpa using h)
    rw [show (k + 1) * 2 = k * 2 + 2 by omega, show k * 2 + 2 + 1 = k * 2 + 1 + 2 by omega]
    exact this
theorem encRs_mem {l : List PRec} {c : AV} (h : c ∈ encRs l) : ∃ s, c = .s s := by
  simp only [encRs, List.mem_flatMap] at h
  obtain ⟨r, _, hr⟩ := h
  simp [encR] at hr
  rcases hr with rfl | rfl <;> exact ⟨_, rfl⟩
theorem encRs_pl (l : List PRec) : (encRs l).map AV.pl = encRs l := by
  have : ∀ c ∈ encRs l, c.pl = id c := fun c hc => by obtain ⟨s, rfl⟩ := encRs_mem hc; rfl
  rw [List.map_congr_left this, List.map_id]
theorem encRs_one (l : List PRec) : (encRs l).all E.one = true := List.all_eq_true.2 fun c hc => by obtain ⟨s, rfl⟩ := encRs_mem hc; rfl
theorem cleanRs (n : Nat) (l : List PRec) : cleanL n (encRs l) = true := cleanL_of fun c hc => by obtain ⟨s, rfl⟩ := encRs_mem hc; rfl
theorem encRs_take (l : List PRec) (k : Nat) : (encRs l).take (k * 2) = encRs (l.take k) := by
  induction l generalizing k with
  | nil => simp [encRs]
  | cons a l ih =>
    cases k with
    | zero => simp [encRs]
    | succ k =>
      rw [show (k + 1) * 2 = k * 2 + 2 by omega]
      have := ih k
      simp only [encRs, List.flatMap_cons, List.take_succ_cons] at *
      simp [encR, this]
theorem encRs_drop (l : List PRec) (k : Nat) : (encRs l).drop (k * 2) = encRs (l.drop k) := by
  induction l generalizing k with
  | nil => simp [encRs]
  | cons a l ih =>
    cases k with
    | zero => simp [encRs]
    | succ k =>
      rw [show (k + 1) * 2 = k * 2 + 2 by omega]
      have := ih k
      simp only [encRs, List.flatMap_cons, List.drop_succ_cons] at *
      simp [encR, this]

def upd (k v : List UInt8) : List PRec → List PRec
  | [] => [(k, v)]
  | a :: m => if k = a.1 then (k, v) :: m else a :: upd k v m
def lookM (k : List UInt8) : List PRec → Option (List UInt8)
  | [] => none
  | a :: m => if k = a.1 then some a.2 else lookM k m
def mapOf (l : List PRec) : List PRec := l.foldl (fun m r => upd r.1 r.2 m) []
/-- What the last record of a key says. -/
def lastOf (l : List PRec) (k : List UInt8) : Option (List UInt8) := lookM k l.reverse

theorem mfind_enc (k v : List UInt8) : ∀ m : List PRec, ∃ r, mfind k (encM m) = some r ∧ putM k (.s v) (encM m) r = encM (upd k v m)
  | [] => ⟨none, rfl, rfl⟩
  | a :: m => by
    simp only [encM, List.map_cons, mfind, upd]
    by_cases h : k = a.1
    · rw [if_pos h, if_pos h]
      exact ⟨some 0, rfl, by simp [putM]⟩
    · rw [if_neg h, if_neg h]
      obtain ⟨r, h1, h2⟩ := mfind_enc k v m
      simp only [encM] at h1 h2
      refine ⟨r.map (· + 1), by rw [h1]; rfl, ?_⟩
      cases r with
      | none =>
        simp only [putM] at h2
        simp [putM, h2]
      | some j =>
        simp only [putM] at h2
        simp [putM, h2]
theorem mget_enc {P : Program} {et : TypeId} (k v : List UInt8) : ∀ m : List PRec, lookM k m = some v → mget P et k (encM m) = some (.s v, true)
  | [], h => by simp [lookM] at h
  | a :: m, h => by
    simp only [lookM] at h
    simp only [encM, List.map_cons, mget, mfind]
    by_cases h1 : k = a.1
    · rw [if_pos h1] at h ⊢
      cases h
      rfl
    · rw [if_neg h1] at h ⊢
      have := mget_enc (P := P) (et := et) k v m h
      simp only [mget, encM] at this
      cases hf : mfind k (m.map fun p => ((AV.s p.1), (AV.s p.2))) with
      | none => rw [hf] at this; cases this
      | some r =>
        rw [hf] at this
        cases r with
        | none =>
          exfalso
          simp only at this
          obtain ⟨z, _, h⟩ := Option.map_eq_some_iff.1 this
          cases h
        | some j => simpa using this
theorem upd_keys (k v : List UInt8) : ∀ m : List PRec, (upd k v m).map (·.1) = if k ∈ m.map (·.1) then m.map (·.1) else m.map (·.1) ++ [k]
  | [] => rfl
  | a :: m => by
    simp only [upd]
    by_cases h : k = a.1
    · subst h
      simp
    · rw [if_neg h]
      simp only [List.map_cons, upd_keys k v m, List.mem_cons, h, false_or]
      split <;> simp
theorem upd_nodup (k v : List UInt8) (m : List PRec) (h : (m.map (·.1)).Nodup) : ((upd k v m).map (·.1)).Nodup := by
  rw [upd_keys]
  split
  · exact h
  · rename_i hk
    rw [List.nodup_append]
    exact ⟨h, by simp, fun a ha b hb e => by simp at hb; subst hb; subst e; exact hk ha⟩
theorem look_upd (k v x : List UInt8) : ∀ m : List PRec, lookM x (upd k v m) = if x = k then some v else lookM x m
  | [] => by simp [upd, lookM]
  | a :: m => by
    simp only [upd]
    by_cases h : k = a.1
    · rw [if_pos h]
      simp only [lookM, ← h]
      split <;> rfl
    · rw [if_neg h]
      simp only [lookM, look_upd k v x m]
      by_cases h2 : x = a.1
      · rw [if_pos h2, if_pos h2, if_neg (fun e => h (by rw [← e, h2]))]
      · rw [if_neg h2, if_neg h2]
theorem mapOf_snoc (l : List PRec) (r : PRec) : mapOf (l ++ [r]) = upd r.1 r.2 (mapOf l) := by simp [mapOf]
theorem mapOf_nodup (l : List PRec) : ((mapOf l).map (·.1)).Nodup := by
  have : ∀ (n : Nat) (l : List PRec), l.length = n → ((mapOf l).map (·.1)).Nodup := by
    intro n
    induction n with
    | zero => intro l hl; rw [List.eq_nil_of_length_eq_zero hl]; simp [mapOf]
    | succ n ih =>
      intro l hl
      have hne : l ≠ [] := fun e => by subst e; simp at hl
      rw [← List.dropLast_concat_getLast hne, mapOf_snoc]
      exact upd_nodup _ _ _ (ih _ (by simp [hl]))
  exact this _ l rfl
theorem look_mapOf (x : List UInt8) (l : List PRec) : lookM x (mapOf l) = lastOf l x := by
  have : ∀ (n : Nat) (l : List PRec), l.length = n → lookM x (mapOf l) = lastOf l x := by
    intro n
    induction n with
    | zero => intro l hl; rw [List.eq_nil_of_length_eq_zero hl]; rfl
    | succ n ih =>
      intro l hl
      have hne : l ≠ [] := fun e => by subst e; simp at hl
      rw [← List.dropLast_concat_getLast hne, mapOf_snoc, look_upd, ih _ (by simp [hl])]
      simp only [lastOf, List.reverse_append, List.reverse_cons, List.reverse_nil, List.nil_append, List.singleton_append, lookM]
  exact this _ l rfl
theorem mapOf_len (l : List PRec) : (mapOf l).length ≤ l.length := by
  have h1 : ∀ (k v : List UInt8) (m : List PRec), (upd k v m).length ≤ m.length + 1 := fun k v m => by
    have := congrArg List.length (upd_keys k v m)
    rw [List.length_map] at this
    rw [this]
    split <;> simp
  have : ∀ (n : Nat) (l : List PRec), l.length = n → (mapOf l).length ≤ n := by
    intro n
    induction n with
    | zero => intro l hl; rw [List.eq_nil_of_length_eq_zero hl]; simp [mapOf]
    | succ n ih =>
      intro l hl
      have hne : l ≠ [] := fun e => by subst e; simp at hl
      rw [← List.dropLast_concat_getLast hne, mapOf_snoc]
      have := ih l.dropLast (by simp [hl])
      have := h1 (l.getLast hne).1 (l.getLast hne).2 (mapOf l.dropLast)
      omega
  exact this _ l rfl
theorem look_mem {k : List UInt8} : ∀ {m : List PRec}, k ∈ m.map (·.1) ↔ ∃ v, lookM k m = some v
  | [] => by simp [lookM]
  | a :: m => by
    simp only [List.map_cons, List.mem_cons, lookM]
    by_cases h : k = a.1
    · rw [if_pos h]
      simp [h]
    · rw [if_neg h, ← look_mem (m := m)]
      simp [h]

/-- The records that are kept of keys. -/
def keepOf (l : List PRec) (ks : List (List UInt8)) : List PRec := ks.filterMap fun k => match lastOf l k with | some v => if v = [] then none else some (k, v) | none => none
/-- What a merge of records is: a record a key, by rising keys; what the last one says; nothing of what says nothing. -/
structure IsMerge (l L : List PRec) : Prop where
  sorted : L.Pairwise fun a b => a.1 ≤ b.1
  nodup : (L.map (·.1)).Nodup
  mem : ∀ k v, (k, v) ∈ L ↔ lastOf l k = some v ∧ v ≠ []
theorem keepOf_mem (l : List PRec) (ks : List (List UInt8)) (k v : List UInt8) : (k, v) ∈ keepOf l ks ↔ k ∈ ks ∧ lastOf l k = some v ∧ v ≠ [] := by
  simp only [keepOf, List.mem_filterMap]
  constructor
  · rintro ⟨k', hk', h⟩
    split at h
    · rename_i v' hv'
      split at h
      · cases h
      · rename_i hne
        cases h
        exact ⟨hk', hv', hne⟩
    · cases h
  · rintro ⟨h1, h2, h3⟩
    exact ⟨k, h1, by rw [h2]; simp [h3]⟩
theorem keepOf_keys (l : List PRec) (ks : List (List UInt8)) : ((keepOf l ks).map (·.1)).Sublist ks := by
  induction ks with
  | nil => simp [keepOf]
  | cons k ks ih =>
    simp only [keepOf, List.filterMap_cons]
    split
    · exact .cons _ ih
    · rename_i r hr
      have : r.1 = k := by
        split at hr
        · split at hr
          · cases hr
          · cases hr; rfl
        · cases hr
      simp only [List.map_cons, this]
      exact .cons_cons _ ih
theorem le_trans3 (a b c : List UInt8) : decide (a ≤ b) = true → decide (b ≤ c) = true → decide (a ≤ c) = true := by
  simp only [decide_eq_true_eq]
  exact List.le_trans
theorem le_total2 (a b : List UInt8) : (decide (a ≤ b) || decide (b ≤ a)) = true := by
  simp only [Bool.or_eq_true, decide_eq_true_eq]
  exact List.le_total a b
theorem isMerge (l : List PRec) (ks : List (List UInt8)) (h : ks.Perm ((mapOf l).map (·.1))) : IsMerge l (keepOf l (ks.mergeSort fun x y => decide (x ≤ y))) := by
  have hp := (List.mergeSort_perm ks fun x y => decide (x ≤ y)).trans h
  refine ⟨?_, ?_, fun k v => ?_⟩
  · have h1 := List.pairwise_mergeSort (le := fun x y => decide (x ≤ y)) le_trans3 le_total2 ks
    have h2 := h1.sublist (keepOf_keys l _)
    rw [List.pairwise_map] at h2
    exact h2.imp fun h => by simpa using h
  · exact ((hp.nodup_iff).2 (mapOf_nodup l)).sublist (keepOf_keys l _)
  · rw [keepOf_mem]
    constructor
    · exact fun h => h.2
    · rintro ⟨h1, h2⟩
      refine ⟨hp.mem_iff.2 (look_mem.2 ⟨v, by rw [look_mapOf]; exact h1⟩), h1, h2⟩
end Go.Proofs.Ytoofpdmdgofdcaa.L

namespace Go.Proofs.Ytoofpdmdgofdcaa.L
open Go Go.RowKit Go.Proofs.Ytoofpdmdgofdcaa.E
set_option linter.unusedVariables false
set_option linter.unusedSimpArgs false
set_option maxRecDepth 10000
set_option maxHeartbeats 1000000
theorem cnil : cst (.slice none 0 0) = .sl .nil 0 [] := by kernel_rfl
theorem grow0 (σ : AState) : ACalls Try.prog G0 41 [.sl .nil 0 [], .i .i64 0] σ (retIs (.sl .nil 0 []) σ) := by
  refine ACalls.body G0_pl Try.func41 rfl (by rfl) (by decide) ?_; simp only [Try.ntmps41, List.replicate, go_sem, Nat.reduceAdd, Nat.reduceSub]
  have h1 : IntKind.i64.wrap (0 - ((0 : Nat) : Int)) = 0 := by rw [wrap_i64 (by omega) (by omega)]; omega
  have h2 : IntKind.i64.wrap 0 = 0 := by rw [wrap_i64 (by omega) (by omega)]
  repeat' (first
    | ((first | ((with_reducible refine awOps_move ?_ ?_); decide +kernel) | ((with_reducible refine awOps_load ?_ ?_); decide +kernel) | ((with_reducible refine awOps_one ?_ ?_); decide +kernel) | (with_reducible refine awOps_feed ?_) | ((with_reducible refine awOps_g ?_); refine awOps_guard rfl ?_) | ((with_reducible refine awT_one ?_ ?_); decide +kernel) | ((with_reducible refine awT_call ?_ ?_); decide +kernel) | ((with_reducible refine awT_g ?_); refine awT_guard rfl ?_) | ((with_reducible refine awU_one ?_ ?_); decide +kernel) | ((with_reducible refine awU_call ?_ ?_); decide +kernel) | ((with_reducible refine awU_g ?_); refine awU_guard rfl ?_) | (with_reducible refine AWp.condH ?_)); intro K Q' hK hQ; simp only [cnil, h1, h2, gt_iff_lt, Int.lt_irrefl, go_sem, Nat.reduceAdd, Nat.reduceSub, Nat.reduceMul, Nat.reduceDiv, Nat.reduceMod, Nat.reduceLT, Nat.reduceLeDiff, Nat.reduceEqDiff, Nat.reduceBEq, Nat.reduceBNe, reduceCtorEq, Int.reduceLE, Int.reduceLT, Int.reduceNeg, Int.reduceToNat, Int.reduceAdd, Int.reduceSub, Int.reduceMul, Int.reduceBEq, Int.reduceBNe, Int.reduceEq]; subst hK hQ)
    | ((with_reducible refine AWp.drawT Try.follows ?_ ?_); decide +kernel) | ((with_reducible refine AWp.drawU Try.follows ?_ ?_); decide +kernel)
    | with_reducible (first | refine awOps_end ?_ | refine awT_end ?_ | refine awU_end ?_ | refine nThen ?_ | refine putKn ?_ | refine nSuf ?_ | refine rThen ?_ | refine eThen ?_ | refine nBlock ?_ | refine eBlock ?_ | refine fBlock (by decide) ?_ | refine rBlock ?_ | refine nScope ?_ | refine eScope ?_ | refine rScope ?_ | refine AWp.seq ?_ | refine AWp.block ?_ | refine AWp.scope ?_ | refine AWp.text ?_ | refine AWp.skip ?_ | refine AWp.exit ?_ | refine AWp.ret ?_ | refine AWp.label ?_ | refine brK_T (by assumption) ?_ | refine brK_F (by assumption) ?_ | refine brK_mk (fun hb => ?_) (fun hb => ?_))
    | ((with_reducible refine And.intro ?_ ?_); focus (first | assumption | omega | (simp only [go_sem, reduceCtorEq]; done)))
    | ((with_reducible (first | refine rBodyZ ?_ | refine nBodyZ ?_ | refine rBodyQ ?_ | refine nBodyQ ?_)); simp only [cnil, h1, h2, gt_iff_lt, Int.lt_irrefl, go_sem, Nat.reduceAdd, Nat.reduceSub, Nat.reduceMul, Nat.reduceDiv, Nat.reduceMod, Nat.reduceLT, Nat.reduceLeDiff, Nat.reduceEqDiff, Nat.reduceBEq, Nat.reduceBNe, reduceCtorEq, Int.reduceLE, Int.reduceLT, Int.reduceNeg, Int.reduceToNat, Int.reduceAdd, Int.reduceSub, Int.reduceMul, Int.reduceBEq, Int.reduceBNe, Int.reduceEq]))
  exact ⟨rfl, rfl⟩
theorem grow1 (n : Nat) (hn : 0 < n) (hn2 : n ≤ 1099511627776) (σ : AState) : ACalls Try.prog G0 41 [.sl .nil 0 [], .i .i64 n] σ (fun r s => ∃ cap, n ≤ cap ∧ r = .ret (.sm σ.length 0 0 cap 2) ∧ s = σ ++ [.cells (List.replicate (cap * 2) .u)]) := by
  refine ACalls.body G0_pl Try.func41 rfl (by rfl) (by decide) ?_; simp only [Try.ntmps41, List.replicate, go_sem, Nat.reduceAdd, Nat.reduceSub]
  have h1 : decide ((n : Int) < 0) = false := by simp
  have h0 : IntKind.i64.wrap (0 - ((0 : Nat) : Int)) = 0 := by rw [wrap_i64 (by omega) (by omega)]; omega
  have h2 : IntKind.i64.wrap ((n : Int) - 0) = n := by rw [wrap_i64 (by omega) (by omega)]; omega
  have h3 : decide (0 < (n : Int)) = true := by simp; omega
  repeat' (first
    | ((first | ((with_reducible refine awOps_move ?_ ?_); decide +kernel) | ((with_reducible refine awOps_load ?_ ?_); decide +kernel) | ((with_reducible refine awOps_one ?_ ?_); decide +kernel) | (with_reducible refine awOps_feed ?_) | ((with_reducible refine awOps_g ?_); refine awOps_guard rfl ?_) | ((with_reducible refine awT_one ?_ ?_); decide +kernel) | ((with_reducible refine awT_call ?_ ?_); decide +kernel) | ((with_reducible refine awT_g ?_); refine awT_guard rfl ?_) | ((with_reducible refine awU_one ?_ ?_); decide +kernel) | ((with_reducible refine awU_call ?_ ?_); decide +kernel) | ((with_reducible refine awU_g ?_); refine awU_guard rfl ?_) | (with_reducible refine AWp.condH ?_)); intro K Q' hK hQ; simp only [cnil, h0, h1, h2, h3, gt_iff_lt, go_sem, Nat.reduceAdd, Nat.reduceSub, Nat.reduceMul, Nat.reduceDiv, Nat.reduceMod, Nat.reduceLT, Nat.reduceLeDiff, Nat.reduceEqDiff, Nat.reduceBEq, Nat.reduceBNe, reduceCtorEq, Int.reduceLE, Int.reduceLT, Int.reduceNeg, Int.reduceToNat, Int.reduceAdd, Int.reduceSub, Int.reduceMul, Int.reduceBEq, Int.reduceBNe, Int.reduceEq]; subst hK hQ)
    | ((with_reducible refine AWp.drawT Try.follows ?_ ?_); decide +kernel) | ((with_reducible refine AWp.drawU Try.follows ?_ ?_); decide +kernel)
    | with_reducible (first | refine awOps_end ?_ | refine awT_end ?_ | refine awU_end ?_ | refine nThen ?_ | refine putKn ?_ | refine nSuf ?_ | refine rThen ?_ | refine eThen ?_ | refine nBlock ?_ | refine eBlock ?_ | refine fBlock (by decide) ?_ | refine rBlock ?_ | refine nScope ?_ | refine eScope ?_ | refine rScope ?_ | refine AWp.seq ?_ | refine AWp.block ?_ | refine AWp.scope ?_ | refine AWp.text ?_ | refine AWp.skip ?_ | refine AWp.exit ?_ | refine AWp.ret ?_ | refine AWp.label ?_ | refine brK_T (by assumption) ?_ | refine brK_F (by assumption) ?_ | refine brK_mk (fun hb => ?_) (fun hb => ?_))
    | ((with_reducible refine And.intro ?_ ?_); focus (first | assumption | omega | (simp only [go_sem, reduceCtorEq]; done)))
    | ((with_reducible (first | refine rBodyZ ?_ | refine nBodyZ ?_ | refine rBodyQ ?_ | refine nBodyQ ?_)); simp only [cnil, h0, h1, h2, h3, gt_iff_lt, go_sem, Nat.reduceAdd, Nat.reduceSub, Nat.reduceMul, Nat.reduceDiv, Nat.reduceMod, Nat.reduceLT, Nat.reduceLeDiff, Nat.reduceEqDiff, Nat.reduceBEq, Nat.reduceBNe, reduceCtorEq, Int.reduceLE, Int.reduceLT, Int.reduceNeg, Int.reduceToNat, Int.reduceAdd, Int.reduceSub, Int.reduceMul, Int.reduceBEq, Int.reduceBNe, Int.reduceEq]))
  refine appC.z ?_
  have hn' : (0 : Int) < n := by omega
  have hn3 : 2 * (n : Int) * ((32 : Nat) : Int) ≤ 281474976710656 := by omega
  have hn4 : (n : Int) ≤ 281474976710656 := by omega
  simp only [aappendZ, hn', hn4, go_sem, Nat.reduceAdd, Nat.reduceSub, Nat.reduceMul, Nat.reduceDiv, Nat.reduceMod, Nat.reduceLT, Nat.reduceLeDiff, Nat.reduceEqDiff, Nat.reduceBEq, Nat.reduceBNe, reduceCtorEq, Int.reduceLE, Int.reduceLT, Int.reduceNeg, Int.reduceToNat, Int.reduceAdd, Int.reduceSub, Int.reduceMul, Int.reduceBEq, Int.reduceBNe, Int.reduceEq]
  refine ⟨by omega, fun c hc => ?_⟩
  repeat' (first
    | ((first | ((with_reducible refine awOps_move ?_ ?_); decide +kernel) | ((with_reducible refine awOps_load ?_ ?_); decide +kernel) | ((with_reducible refine awOps_one ?_ ?_); decide +kernel) | (with_reducible refine awOps_feed ?_) | ((with_reducible refine awOps_g ?_); refine awOps_guard rfl ?_) | ((with_reducible refine awT_one ?_ ?_); decide +kernel) | ((with_reducible refine awT_call ?_ ?_); decide +kernel) | ((with_reducible refine awT_g ?_); refine awT_guard rfl ?_) | ((with_reducible refine awU_one ?_ ?_); decide +kernel) | ((with_reducible refine awU_call ?_ ?_); decide +kernel) | ((with_reducible refine awU_g ?_); refine awU_guard rfl ?_) | (with_reducible refine AWp.condH ?_)); intro K Q' hK hQ; simp only [Nat.zero_mul, ite_self, go_sem, Nat.reduceAdd, Nat.reduceSub, Nat.reduceMul, Nat.reduceDiv, Nat.reduceMod, Nat.reduceLT, Nat.reduceLeDiff, Nat.reduceEqDiff, Nat.reduceBEq, Nat.reduceBNe, reduceCtorEq, Int.reduceLE, Int.reduceLT, Int.reduceNeg, Int.reduceToNat, Int.reduceAdd, Int.reduceSub, Int.reduceMul, Int.reduceBEq, Int.reduceBNe, Int.reduceEq]; subst hK hQ)
    | ((with_reducible refine AWp.drawT Try.follows ?_ ?_); decide +kernel) | ((with_reducible refine AWp.drawU Try.follows ?_ ?_); decide +kernel)
    | with_reducible (first | refine awOps_end ?_ | refine awT_end ?_ | refine awU_end ?_ | refine nThen ?_ | refine putKn ?_ | refine nSuf ?_ | refine rThen ?_ | refine eThen ?_ | refine nBlock ?_ | refine eBlock ?_ | refine fBlock (by decide) ?_ | refine rBlock ?_ | refine nScope ?_ | refine eScope ?_ | refine rScope ?_ | refine AWp.seq ?_ | refine AWp.block ?_ | refine AWp.scope ?_ | refine AWp.text ?_ | refine AWp.skip ?_ | refine AWp.exit ?_ | refine AWp.ret ?_ | refine AWp.label ?_ | refine brK_T (by assumption) ?_ | refine brK_F (by assumption) ?_ | refine brK_mk (fun hb => ?_) (fun hb => ?_))
    | ((with_reducible refine And.intro ?_ ?_); focus (first | assumption | omega | (simp only [go_sem, reduceCtorEq]; done)))
    | ((with_reducible (first | refine rBodyZ ?_ | refine nBodyZ ?_ | refine rBodyQ ?_ | refine nBodyQ ?_)); simp only [Nat.zero_mul, ite_self, go_sem, Nat.reduceAdd, Nat.reduceSub, Nat.reduceMul, Nat.reduceDiv, Nat.reduceMod, Nat.reduceLT, Nat.reduceLeDiff, Nat.reduceEqDiff, Nat.reduceBEq, Nat.reduceBNe, reduceCtorEq, Int.reduceLE, Int.reduceLT, Int.reduceNeg, Int.reduceToNat, Int.reduceAdd, Int.reduceSub, Int.reduceMul, Int.reduceBEq, Int.reduceBNe, Int.reduceEq]))
  exact ⟨c, by omega, by rw [Nat.sub_zero], rfl⟩

abbrev sliceOf (l : List PRec) : AV := .sl .no l.length (encRs l)
theorem flat_take (ls : List (List PRec)) (k : Nat) (h : k < ls.length) : (ls.take (k + 1)).flatten = (ls.take k).flatten ++ ls[k] := by
  have e : ls.take (k + 1) = ls.take k ++ [ls[k]] := by rw [List.take_add_one, List.getElem?_eq_getElem h]; rfl
  rw [e, List.flatten_append]
  simp
theorem flat_le (ls : List (List PRec)) (k : Nat) : (ls.take k).flatten.length ≤ ls.flatten.length := by
  have := congrArg (fun l => (List.flatten l).length) (List.take_append_drop k ls)
  simp only [List.flatten_append, List.length_append] at this
  omega

/-- Slices, one behind the other. -/
theorem concat (ls : List (List PRec)) (cells : List AV) (hgetk : ∀ k (h : k < ls.length), ∃ o, cells[k]? = some (.sl o ls[k].length (encRs ls[k]))) (hn : ls.length ≤ 1099511627776) (hl : ls.flatten.length ≤ 1099511627776) (σ : AState) :
    ACalls Try.prog G0 36 [.sl .no ls.length cells] σ (retIs (vN ls.flatten.length (encRs ls.flatten)) σ) := by
  have hall : ls.take ls.length = ls := List.take_length
  refine ACalls.bodyZ G0_pl Try.func36 rfl (by rfl) (by decide) ?_; simp only [Try.ntmps36, List.replicate, go_sem, Nat.reduceAdd, Nat.reduceSub]
  repeat' (first
    | ((first | ((with_reducible refine awOps_move ?_ ?_); decide +kernel) | ((with_reducible refine awOps_load ?_ ?_); decide +kernel) | ((with_reducible refine awOps_one ?_ ?_); decide +kernel) | (with_reducible refine awOps_feed ?_) | ((with_reducible refine awOps_g ?_); refine awOps_guard rfl ?_) | ((with_reducible refine awT_one ?_ ?_); decide +kernel) | ((with_reducible refine awT_call ?_ ?_); decide +kernel) | ((with_reducible refine awT_g ?_); refine awT_guard rfl ?_) | ((with_reducible refine awU_one ?_ ?_); decide +kernel) | ((with_reducible refine awU_call ?_ ?_); decide +kernel) | ((with_reducible refine awU_g ?_); refine awU_guard rfl ?_) | (with_reducible refine AWp.condH ?_)); intro K Q' hK hQ; simp only [cnil, go_sem, Nat.reduceAdd, Nat.reduceSub, Nat.reduceMul, Nat.reduceDiv, Nat.reduceMod, Nat.reduceLT, Nat.reduceLeDiff, Nat.reduceEqDiff, Nat.reduceBEq, Nat.reduceBNe, reduceCtorEq, Int.reduceLE, Int.reduceLT, Int.reduceNeg, Int.reduceToNat, Int.reduceAdd, Int.reduceSub, Int.reduceMul, Int.reduceBEq, Int.reduceBNe, Int.reduceEq]; subst hK hQ)
    | ((with_reducible refine AWp.drawT Try.follows ?_ ?_); decide +kernel) | ((with_reducible refine AWp.drawU Try.follows ?_ ?_); decide +kernel)
    | with_reducible (first | refine awOps_end ?_ | refine awT_end ?_ | refine awU_end ?_ | refine nThen ?_ | refine putKn ?_ | refine nSuf ?_ | refine rThen ?_ | refine eThen ?_ | refine nBlock ?_ | refine eBlock ?_ | refine fBlock (by decide) ?_ | refine rBlock ?_ | refine nScope ?_ | refine eScope ?_ | refine rScope ?_ | refine AWp.seq ?_ | refine AWp.block ?_ | refine AWp.scope ?_ | refine AWp.text ?_ | refine AWp.skip ?_ | refine AWp.exit ?_ | refine AWp.ret ?_ | refine AWp.label ?_ | refine brK_T (by assumption) ?_ | refine brK_F (by assumption) ?_ | refine brK_mk (fun hb => ?_) (fun hb => ?_))
    | ((with_reducible refine And.intro ?_ ?_); focus (first | assumption | omega | (simp only [go_sem, reduceCtorEq]; done)))
    | ((with_reducible (first | refine rBodyZ ?_ | refine nBodyZ ?_ | refine rBodyQ ?_ | refine nBodyQ ?_)); simp only [cnil, go_sem, Nat.reduceAdd, Nat.reduceSub, Nat.reduceMul, Nat.reduceDiv, Nat.reduceMod, Nat.reduceLT, Nat.reduceLeDiff, Nat.reduceEqDiff, Nat.reduceBEq, Nat.reduceBNe, reduceCtorEq, Int.reduceLE, Int.reduceLT, Int.reduceNeg, Int.reduceToNat, Int.reduceAdd, Int.reduceSub, Int.reduceMul, Int.reduceBEq, Int.reduceBNe, Int.reduceEq]))
  refine AWp.loop (α := Nat) (fun k => k ≤ ls.length) (fun k => ls.length - k) (fun k => mkE 36 [(0, .sl .no ls.length cells), (3, .i .i64 ((ls.take k).flatten.length : Int)), (9, .sl .no ls.length cells), (10, .i .i64 ls.length), (11, .i .i64 k)]) (fun _ => σ) 0 (Nat.zero_le _) ?_ ?_ ?_
  · simp only [Int.natCast_zero, List.flatten_nil, go_sem, Nat.reduceAdd, Nat.reduceSub, Nat.reduceMul, Nat.reduceDiv, Nat.reduceMod, Nat.reduceLT, Nat.reduceLeDiff, Nat.reduceEqDiff, Nat.reduceBEq, Nat.reduceBNe, reduceCtorEq, Int.reduceLE, Int.reduceLT, Int.reduceNeg, Int.reduceToNat, Int.reduceAdd, Int.reduceSub, Int.reduceMul, Int.reduceBEq, Int.reduceBNe, Int.reduceEq]
  · exact WeakS.refl _
  intro k hk
  by_cases hlt : k < ls.length
  · have hd : decide ((k : Int) < (ls.length : Int)) = true := by simp; omega
    have hw := wrapS (k := k) (by omega)
    obtain ⟨o, hg⟩ := hgetk k hlt
    have hr : (0 : Int) ≤ (k : Int) ∧ (k : Int) < (ls.length : Int) := by omega
    have hft := flat_take ls k hlt
    have hfl := flat_le ls (k + 1)
    rw [hft, List.length_append] at hfl
    have hw2 : IntKind.i64.wrap (((ls.take k).flatten.length : Int) + (ls[k].length : Int)) = (((ls.take k).flatten.length + ls[k].length : Nat) : Int) := by rw [wrap_i64 (by omega) (by omega)]; omega
    have hneg : decide ((((ls.take k).flatten.length + ls[k].length : Nat) : Int) < 0) = false := by simp; omega
    repeat' (first
    | ((first | ((with_reducible refine awOps_move ?_ ?_); decide +kernel) | ((with_reducible refine awOps_load ?_ ?_); decide +kernel) | ((with_reducible refine awOps_one ?_ ?_); decide +kernel) | (with_reducible refine awOps_feed ?_) | ((with_reducible refine awOps_g ?_); refine awOps_guard rfl ?_) | ((with_reducible refine awT_one ?_ ?_); decide +kernel) | ((with_reducible refine awT_call ?_ ?_); decide +kernel) | ((with_reducible refine awT_g ?_); refine awT_guard rfl ?_) | ((with_reducible refine awU_one ?_ ?_); decide +kernel) | ((with_reducible refine awU_call ?_ ?_); decide +kernel) | ((with_reducible refine awU_g ?_); refine awU_guard rfl ?_) | (with_reducible refine AWp.condH ?_)); intro K Q' hK hQ; simp only [hd, hw, hg, hr, hw2, hneg, go_sem, Nat.reduceAdd, Nat.reduceSub, Nat.reduceMul, Nat.reduceDiv, Nat.reduceMod, Nat.reduceLT, Nat.reduceLeDiff, Nat.reduceEqDiff, Nat.reduceBEq, Nat.reduceBNe, reduceCtorEq, Int.reduceLE, Int.reduceLT, Int.reduceNeg, Int.reduceToNat, Int.reduceAdd, Int.reduceSub, Int.reduceMul, Int.reduceBEq, Int.reduceBNe, Int.reduceEq]; subst hK hQ)
    | ((with_reducible refine AWp.drawT Try.follows ?_ ?_); decide +kernel) | ((with_reducible refine AWp.drawU Try.follows ?_ ?_); decide +kernel)
    | with_reducible (first | refine awOps_end ?_ | refine awT_end ?_ | refine awU_end ?_ | refine nThen ?_ | refine putKn ?_ | refine nSuf ?_ | refine rThen ?_ | refine eThen ?_ | refine nBlock ?_ | refine eBlock ?_ | refine fBlock (by decide) ?_ | refine rBlock ?_ | refine nScope ?_ | refine eScope ?_ | refine rScope ?_ | refine AWp.seq ?_ | refine AWp.block ?_ | refine AWp.scope ?_ | refine AWp.text ?_ | refine AWp.skip ?_ | refine AWp.exit ?_ | refine AWp.ret ?_ | refine AWp.label ?_ | refine brK_T (by assumption) ?_ | refine brK_F (by assumption) ?_ | refine brK_mk (fun hb => ?_) (fun hb => ?_))
    | ((with_reducible refine And.intro ?_ ?_); focus (first | assumption | omega | (simp only [go_sem, reduceCtorEq]; done)))
    | ((with_reducible (first | refine rBodyZ ?_ | refine nBodyZ ?_ | refine rBodyQ ?_ | refine nBodyQ ?_)); simp only [hd, hw, hg, hr, hw2, hneg, go_sem, Nat.reduceAdd, Nat.reduceSub, Nat.reduceMul, Nat.reduceDiv, Nat.reduceMod, Nat.reduceLT, Nat.reduceLeDiff, Nat.reduceEqDiff, Nat.reduceBEq, Nat.reduceBNe, reduceCtorEq, Int.reduceLE, Int.reduceLT, Int.reduceNeg, Int.reduceToNat, Int.reduceAdd, Int.reduceSub, Int.reduceMul, Int.reduceBEq, Int.reduceBNe, Int.reduceEq]))
    exact ⟨k + 1, by omega, by simp only; omega, by simp only [hft, hw, List.length_append, go_sem, Nat.reduceAdd, Nat.reduceSub, Nat.reduceMul, Nat.reduceDiv, Nat.reduceMod, Nat.reduceLT, Nat.reduceLeDiff, Nat.reduceEqDiff, Nat.reduceBEq, Nat.reduceBNe, reduceCtorEq, Int.reduceLE, Int.reduceLT, Int.reduceNeg, Int.reduceToNat, Int.reduceAdd, Int.reduceSub, Int.reduceMul, Int.reduceBEq, Int.reduceBNe, Int.reduceEq], WeakS.refl _⟩
  have hd : decide ((k : Int) < (ls.length : Int)) = false := by simp; omega
  have hkl : k = ls.length := by omega
  subst hkl
  by_cases h0 : ls.flatten.length = 0
  · have hz : ∀ k (h : k < ls.length), ls[k] = [] := fun k h => by
      have h1 := flat_take ls k h
      have h2 := flat_le ls (k + 1)
      rw [h1, List.length_append] at h2
      exact List.eq_nil_of_length_eq_zero (by omega)
    have hnil : ls.flatten = [] := List.eq_nil_of_length_eq_zero h0
    repeat' (first
    | ((first | ((with_reducible refine awOps_move ?_ ?_); decide +kernel) | ((with_reducible refine awOps_load ?_ ?_); decide +kernel) | ((with_reducible refine awOps_one ?_ ?_); decide +kernel) | (with_reducible refine awOps_feed ?_) | ((with_reducible refine awOps_g ?_); refine awOps_guard rfl ?_) | ((with_reducible refine awT_one ?_ ?_); decide +kernel) | ((with_reducible refine awT_call ?_ ?_); decide +kernel) | ((with_reducible refine awT_g ?_); refine awT_guard rfl ?_) | ((with_reducible refine awU_one ?_ ?_); decide +kernel) | ((with_reducible refine awU_call ?_ ?_); decide +kernel) | ((with_reducible refine awU_g ?_); refine awU_guard rfl ?_) | (with_reducible refine AWp.condH ?_)); intro K Q' hK hQ; simp only [hd, hall, h0, cnil, Int.natCast_zero, go_sem, Nat.reduceAdd, Nat.reduceSub, Nat.reduceMul, Nat.reduceDiv, Nat.reduceMod, Nat.reduceLT, Nat.reduceLeDiff, Nat.reduceEqDiff, Nat.reduceBEq, Nat.reduceBNe, reduceCtorEq, Int.reduceLE, Int.reduceLT, Int.reduceNeg, Int.reduceToNat, Int.reduceAdd, Int.reduceSub, Int.reduceMul, Int.reduceBEq, Int.reduceBNe, Int.reduceEq]; subst hK hQ)
    | ((with_reducible refine AWp.drawT Try.follows ?_ ?_); decide +kernel) | ((with_reducible refine AWp.drawU Try.follows ?_ ?_); decide +kernel)
    | with_reducible (first | refine awOps_end ?_ | refine awT_end ?_ | refine awU_end ?_ | refine nThen ?_ | refine putKn ?_ | refine nSuf ?_ | refine rThen ?_ | refine eThen ?_ | refine nBlock ?_ | refine eBlock ?_ | refine fBlock (by decide) ?_ | refine rBlock ?_ | refine nScope ?_ | refine eScope ?_ | refine rScope ?_ | refine AWp.seq ?_ | refine AWp.block ?_ | refine AWp.scope ?_ | refine AWp.text ?_ | refine AWp.skip ?_ | refine AWp.exit ?_ | refine AWp.ret ?_ | refine AWp.label ?_ | refine brK_T (by assumption) ?_ | refine brK_F (by assumption) ?_ | refine brK_mk (fun hb => ?_) (fun hb => ?_))
    | ((with_reducible refine And.intro ?_ ?_); focus (first | assumption | omega | (simp only [go_sem, reduceCtorEq]; done)))
    | ((with_reducible (first | refine rBodyZ ?_ | refine nBodyZ ?_ | refine rBodyQ ?_ | refine nBodyQ ?_)); simp only [hd, hall, h0, cnil, Int.natCast_zero, go_sem, Nat.reduceAdd, Nat.reduceSub, Nat.reduceMul, Nat.reduceDiv, Nat.reduceMod, Nat.reduceLT, Nat.reduceLeDiff, Nat.reduceEqDiff, Nat.reduceBEq, Nat.reduceBNe, reduceCtorEq, Int.reduceLE, Int.reduceLT, Int.reduceNeg, Int.reduceToNat, Int.reduceAdd, Int.reduceSub, Int.reduceMul, Int.reduceBEq, Int.reduceBNe, Int.reduceEq]))
    refine ACalls.use (grow0 σ) ?_
    repeat' (first
    | ((first | ((with_reducible refine awOps_move ?_ ?_); decide +kernel) | ((with_reducible refine awOps_load ?_ ?_); decide +kernel) | ((with_reducible refine awOps_one ?_ ?_); decide +kernel) | (with_reducible refine awOps_feed ?_) | ((with_reducible refine awOps_g ?_); refine awOps_guard rfl ?_) | ((with_reducible refine awT_one ?_ ?_); decide +kernel) | ((with_reducible refine awT_call ?_ ?_); decide +kernel) | ((with_reducible refine awT_g ?_); refine awT_guard rfl ?_) | ((with_reducible refine awU_one ?_ ?_); decide +kernel) | ((with_reducible refine awU_call ?_ ?_); decide +kernel) | ((with_reducible refine awU_g ?_); refine awU_guard rfl ?_) | (with_reducible refine AWp.condH ?_)); intro K Q' hK hQ; simp only [go_sem, Nat.reduceAdd, Nat.reduceSub, Nat.reduceMul, Nat.reduceDiv, Nat.reduceMod, Nat.reduceLT, Nat.reduceLeDiff, Nat.reduceEqDiff, Nat.reduceBEq, Nat.reduceBNe, reduceCtorEq, Int.reduceLE, Int.reduceLT, Int.reduceNeg, Int.reduceToNat, Int.reduceAdd, Int.reduceSub, Int.reduceMul, Int.reduceBEq, Int.reduceBNe, Int.reduceEq]; subst hK hQ)
    | ((with_reducible refine AWp.drawT Try.follows ?_ ?_); decide +kernel) | ((with_reducible refine AWp.drawU Try.follows ?_ ?_); decide +kernel)
    | with_reducible (first | refine awOps_end ?_ | refine awT_end ?_ | refine awU_end ?_ | refine nThen ?_ | refine putKn ?_ | refine nSuf ?_ | refine rThen ?_ | refine eThen ?_ | refine nBlock ?_ | refine eBlock ?_ | refine fBlock (by decide) ?_ | refine rBlock ?_ | refine nScope ?_ | refine eScope ?_ | refine rScope ?_ | refine AWp.seq ?_ | refine AWp.block ?_ | refine AWp.scope ?_ | refine AWp.text ?_ | refine AWp.skip ?_ | refine AWp.exit ?_ | refine AWp.ret ?_ | refine AWp.label ?_ | refine brK_T (by assumption) ?_ | refine brK_F (by assumption) ?_ | refine brK_mk (fun hb => ?_) (fun hb => ?_))
    | ((with_reducible refine And.intro ?_ ?_); focus (first | assumption | omega | (simp only [go_sem, reduceCtorEq]; done)))
    | ((with_reducible (first | refine rBodyZ ?_ | refine nBodyZ ?_ | refine rBodyQ ?_ | refine nBodyQ ?_)); simp only [go_sem, Nat.reduceAdd, Nat.reduceSub, Nat.reduceMul, Nat.reduceDiv, Nat.reduceMod, Nat.reduceLT, Nat.reduceLeDiff, Nat.reduceEqDiff, Nat.reduceBEq, Nat.reduceBNe, reduceCtorEq, Int.reduceLE, Int.reduceLT, Int.reduceNeg, Int.reduceToNat, Int.reduceAdd, Int.reduceSub, Int.reduceMul, Int.reduceBEq, Int.reduceBNe, Int.reduceEq]))
    refine AWp.loop (α := Nat) (fun k => k ≤ ls.length) (fun k => ls.length - k) (fun k => mkE 36 [(6, .sl .nil 0 []), (25, .sl .no ls.length cells), (26, .i .i64 ls.length), (27, .i .i64 k)]) (fun _ => σ) 0 (Nat.zero_le _) ?_ ?_ ?_
    · simp only [Int.natCast_zero, go_sem, Nat.reduceAdd, Nat.reduceSub, Nat.reduceMul, Nat.reduceDiv, Nat.reduceMod, Nat.reduceLT, Nat.reduceLeDiff, Nat.reduceEqDiff, Nat.reduceBEq, Nat.reduceBNe, reduceCtorEq, Int.reduceLE, Int.reduceLT, Int.reduceNeg, Int.reduceToNat, Int.reduceAdd, Int.reduceSub, Int.reduceMul, Int.reduceBEq, Int.reduceBNe, Int.reduceEq]
    · exact WeakS.refl _
    intro k hk
    by_cases hlt : k < ls.length
    · have hd : decide ((k : Int) < (ls.length : Int)) = true := by simp; omega
      have hw := wrapS (k := k) (by omega)
      obtain ⟨o, hg⟩ := hgetk k hlt
      rw [hz k hlt] at hg
      have hr : (0 : Int) ≤ (k : Int) ∧ (k : Int) < (ls.length : Int) := by omega
      repeat' (first
    | ((first | ((with_reducible refine awOps_move ?_ ?_); decide +kernel) | ((with_reducible refine awOps_load ?_ ?_); decide +kernel) | ((with_reducible refine awOps_one ?_ ?_); decide +kernel) | (with_reducible refine awOps_feed ?_) | ((with_reducible refine awOps_g ?_); refine awOps_guard rfl ?_) | ((with_reducible refine awT_one ?_ ?_); decide +kernel) | ((with_reducible refine awT_call ?_ ?_); decide +kernel) | ((with_reducible refine awT_g ?_); refine awT_guard rfl ?_) | ((with_reducible refine awU_one ?_ ?_); decide +kernel) | ((with_reducible refine awU_call ?_ ?_); decide +kernel) | ((with_reducible refine awU_g ?_); refine awU_guard rfl ?_) | (with_reducible refine AWp.condH ?_)); intro K Q' hK hQ; simp only [hd, hw, hg, hr, go_sem, Nat.reduceAdd, Nat.reduceSub, Nat.reduceMul, Nat.reduceDiv, Nat.reduceMod, Nat.reduceLT, Nat.reduceLeDiff, Nat.reduceEqDiff, Nat.reduceBEq, Nat.reduceBNe, reduceCtorEq, Int.reduceLE, Int.reduceLT, Int.reduceNeg, Int.reduceToNat, Int.reduceAdd, Int.reduceSub, Int.reduceMul, Int.reduceBEq, Int.reduceBNe, Int.reduceEq]; subst hK hQ)
    | ((with_reducible refine AWp.drawT Try.follows ?_ ?_); decide +kernel) | ((with_reducible refine AWp.drawU Try.follows ?_ ?_); decide +kernel)
    | with_reducible (first | refine awOps_end ?_ | refine awT_end ?_ | refine awU_end ?_ | refine nThen ?_ | refine putKn ?_ | refine nSuf ?_ | refine rThen ?_ | refine eThen ?_ | refine nBlock ?_ | refine eBlock ?_ | refine fBlock (by decide) ?_ | refine rBlock ?_ | refine nScope ?_ | refine eScope ?_ | refine rScope ?_ | refine AWp.seq ?_ | refine AWp.block ?_ | refine AWp.scope ?_ | refine AWp.text ?_ | refine AWp.skip ?_ | refine AWp.exit ?_ | refine AWp.ret ?_ | refine AWp.label ?_ | refine brK_T (by assumption) ?_ | refine brK_F (by assumption) ?_ | refine brK_mk (fun hb => ?_) (fun hb => ?_))
    | ((with_reducible refine And.intro ?_ ?_); focus (first | assumption | omega | (simp only [go_sem, reduceCtorEq]; done)))
    | ((with_reducible (first | refine rBodyZ ?_ | refine nBodyZ ?_ | refine rBodyQ ?_ | refine nBodyQ ?_)); simp only [hd, hw, hg, hr, go_sem, Nat.reduceAdd, Nat.reduceSub, Nat.reduceMul, Nat.reduceDiv, Nat.reduceMod, Nat.reduceLT, Nat.reduceLeDiff, Nat.reduceEqDiff, Nat.reduceBEq, Nat.reduceBNe, reduceCtorEq, Int.reduceLE, Int.reduceLT, Int.reduceNeg, Int.reduceToNat, Int.reduceAdd, Int.reduceSub, Int.reduceMul, Int.reduceBEq, Int.reduceBNe, Int.reduceEq]))
      refine appC.r ?_
      simp only [aappendM, asrc, appM, go_sem, Nat.reduceAdd, Nat.reduceSub, Nat.reduceMul, Nat.reduceDiv, Nat.reduceMod, Nat.reduceLT, Nat.reduceLeDiff, Nat.reduceEqDiff, Nat.reduceBEq, Nat.reduceBNe, reduceCtorEq, Int.reduceLE, Int.reduceLT, Int.reduceNeg, Int.reduceToNat, Int.reduceAdd, Int.reduceSub, Int.reduceMul, Int.reduceBEq, Int.reduceBNe, Int.reduceEq]
      refine ⟨by simp [encRs], fun _ => ?_, fun h => by simp at h⟩
      repeat' (first
    | ((first | ((with_reducible refine awOps_move ?_ ?_); decide +kernel) | ((with_reducible refine awOps_load ?_ ?_); decide +kernel) | ((with_reducible refine awOps_one ?_ ?_); decide +kernel) | (with_reducible refine awOps_feed ?_) | ((with_reducible refine awOps_g ?_); refine awOps_guard rfl ?_) | ((with_reducible refine awT_one ?_ ?_); decide +kernel) | ((with_reducible refine awT_call ?_ ?_); decide +kernel) | ((with_reducible refine awT_g ?_); refine awT_guard rfl ?_) | ((with_reducible refine awU_one ?_ ?_); decide +kernel) | ((with_reducible refine awU_call ?_ ?_); decide +kernel) | ((with_reducible refine awU_g ?_); refine awU_guard rfl ?_) | (with_reducible refine AWp.condH ?_)); intro K Q' hK hQ; simp only [hw, go_sem, Nat.reduceAdd, Nat.reduceSub, Nat.reduceMul, Nat.reduceDiv, Nat.reduceMod, Nat.reduceLT, Nat.reduceLeDiff, Nat.reduceEqDiff, Nat.reduceBEq, Nat.reduceBNe, reduceCtorEq, Int.reduceLE, Int.reduceLT, Int.reduceNeg, Int.reduceToNat, Int.reduceAdd, Int.reduceSub, Int.reduceMul, Int.reduceBEq, Int.reduceBNe, Int.reduceEq]; subst hK hQ)
    | ((with_reducible refine AWp.drawT Try.follows ?_ ?_); decide +kernel) | ((with_reducible refine AWp.drawU Try.follows ?_ ?_); decide +kernel)
    | with_reducible (first | refine awOps_end ?_ | refine awT_end ?_ | refine awU_end ?_ | refine nThen ?_ | refine putKn ?_ | refine nSuf ?_ | refine rThen ?_ | refine eThen ?_ | refine nBlock ?_ | refine eBlock ?_ | refine fBlock (by decide) ?_ | refine rBlock ?_ | refine nScope ?_ | refine eScope ?_ | refine rScope ?_ | refine AWp.seq ?_ | refine AWp.block ?_ | refine AWp.scope ?_ | refine AWp.text ?_ | refine AWp.skip ?_ | refine AWp.exit ?_ | refine AWp.ret ?_ | refine AWp.label ?_ | refine brK_T (by assumption) ?_ | refine brK_F (by assumption) ?_ | refine brK_mk (fun hb => ?_) (fun hb => ?_))
    | ((with_reducible refine And.intro ?_ ?_); focus (first | assumption | omega | (simp only [go_sem, reduceCtorEq]; done)))
    | ((with_reducible (first | refine rBodyZ ?_ | refine nBodyZ ?_ | refine rBodyQ ?_ | refine nBodyQ ?_)); simp only [hw, go_sem, Nat.reduceAdd, Nat.reduceSub, Nat.reduceMul, Nat.reduceDiv, Nat.reduceMod, Nat.reduceLT, Nat.reduceLeDiff, Nat.reduceEqDiff, Nat.reduceBEq, Nat.reduceBNe, reduceCtorEq, Int.reduceLE, Int.reduceLT, Int.reduceNeg, Int.reduceToNat, Int.reduceAdd, Int.reduceSub, Int.reduceMul, Int.reduceBEq, Int.reduceBNe, Int.reduceEq]))
      exact ⟨k + 1, by omega, by simp only; omega, by simp only [hw, go_sem, Nat.reduceAdd, Nat.reduceSub, Nat.reduceMul, Nat.reduceDiv, Nat.reduceMod, Nat.reduceLT, Nat.reduceLeDiff, Nat.reduceEqDiff, Nat.reduceBEq, Nat.reduceBNe, reduceCtorEq, Int.reduceLE, Int.reduceLT, Int.reduceNeg, Int.reduceToNat, Int.reduceAdd, Int.reduceSub, Int.reduceMul, Int.reduceBEq, Int.reduceBNe, Int.reduceEq], WeakS.refl _⟩
    · have hd : decide ((k : Int) < (ls.length : Int)) = false := by simp; omega
      repeat' (first
    | ((first | ((with_reducible refine awOps_move ?_ ?_); decide +kernel) | ((with_reducible refine awOps_load ?_ ?_); decide +kernel) | ((with_reducible refine awOps_one ?_ ?_); decide +kernel) | (with_reducible refine awOps_feed ?_) | ((with_reducible refine awOps_g ?_); refine awOps_guard rfl ?_) | ((with_reducible refine awT_one ?_ ?_); decide +kernel) | ((with_reducible refine awT_call ?_ ?_); decide +kernel) | ((with_reducible refine awT_g ?_); refine awT_guard rfl ?_) | ((with_reducible refine awU_one ?_ ?_); decide +kernel) | ((with_reducible refine awU_call ?_ ?_); decide +kernel) | ((with_reducible refine awU_g ?_); refine awU_guard rfl ?_) | (with_reducible refine AWp.condH ?_)); intro K Q' hK hQ; simp only [hd, go_sem, Nat.reduceAdd, Nat.reduceSub, Nat.reduceMul, Nat.reduceDiv, Nat.reduceMod, Nat.reduceLT, Nat.reduceLeDiff, Nat.reduceEqDiff, Nat.reduceBEq, Nat.reduceBNe, reduceCtorEq, Int.reduceLE, Int.reduceLT, Int.reduceNeg, Int.reduceToNat, Int.reduceAdd, Int.reduceSub, Int.reduceMul, Int.reduceBEq, Int.reduceBNe, Int.reduceEq]; subst hK hQ)
    | ((with_reducible refine AWp.drawT Try.follows ?_ ?_); decide +kernel) | ((with_reducible refine AWp.drawU Try.follows ?_ ?_); decide +kernel)
    | with_reducible (first | refine awOps_end ?_ | refine awT_end ?_ | refine awU_end ?_ | refine nThen ?_ | refine putKn ?_ | refine nSuf ?_ | refine rThen ?_ | refine eThen ?_ | refine nBlock ?_ | refine eBlock ?_ | refine fBlock (by decide) ?_ | refine rBlock ?_ | refine nScope ?_ | refine eScope ?_ | refine rScope ?_ | refine AWp.seq ?_ | refine AWp.block ?_ | refine AWp.scope ?_ | refine AWp.text ?_ | refine AWp.skip ?_ | refine AWp.exit ?_ | refine AWp.ret ?_ | refine AWp.label ?_ | refine brK_T (by assumption) ?_ | refine brK_F (by assumption) ?_ | refine brK_mk (fun hb => ?_) (fun hb => ?_))
    | ((with_reducible refine And.intro ?_ ?_); focus (first | assumption | omega | (simp only [go_sem, reduceCtorEq]; done)))
    | ((with_reducible (first | refine rBodyZ ?_ | refine nBodyZ ?_ | refine rBodyQ ?_ | refine nBodyQ ?_)); simp only [hd, go_sem, Nat.reduceAdd, Nat.reduceSub, Nat.reduceMul, Nat.reduceDiv, Nat.reduceMod, Nat.reduceLT, Nat.reduceLeDiff, Nat.reduceEqDiff, Nat.reduceBEq, Nat.reduceBNe, reduceCtorEq, Int.reduceLE, Int.reduceLT, Int.reduceNeg, Int.reduceToNat, Int.reduceAdd, Int.reduceSub, Int.reduceMul, Int.reduceBEq, Int.reduceBNe, Int.reduceEq]))
      exact ⟨by rw [h0]; rfl, rfl⟩
  · obtain ⟨tot, htot⟩ : ∃ t, t = ls.flatten.length := ⟨_, rfl⟩
    have hpos : 0 < tot := by omega
    have hl2 : tot ≤ 1099511627776 := by rw [htot]; exact hl
    repeat' (first
    | ((first | ((with_reducible refine awOps_move ?_ ?_); decide +kernel) | ((with_reducible refine awOps_load ?_ ?_); decide +kernel) | ((with_reducible refine awOps_one ?_ ?_); decide +kernel) | (with_reducible refine awOps_feed ?_) | ((with_reducible refine awOps_g ?_); refine awOps_guard rfl ?_) | ((with_reducible refine awT_one ?_ ?_); decide +kernel) | ((with_reducible refine awT_call ?_ ?_); decide +kernel) | ((with_reducible refine awT_g ?_); refine awT_guard rfl ?_) | ((with_reducible refine awU_one ?_ ?_); decide +kernel) | ((with_reducible refine awU_call ?_ ?_); decide +kernel) | ((with_reducible refine awU_g ?_); refine awU_guard rfl ?_) | (with_reducible refine AWp.condH ?_)); intro K Q' hK hQ; simp only [hd, hall, cnil, go_sem, Nat.reduceAdd, Nat.reduceSub, Nat.reduceMul, Nat.reduceDiv, Nat.reduceMod, Nat.reduceLT, Nat.reduceLeDiff, Nat.reduceEqDiff, Nat.reduceBEq, Nat.reduceBNe, reduceCtorEq, Int.reduceLE, Int.reduceLT, Int.reduceNeg, Int.reduceToNat, Int.reduceAdd, Int.reduceSub, Int.reduceMul, Int.reduceBEq, Int.reduceBNe, Int.reduceEq]; subst hK hQ)
    | ((with_reducible refine AWp.drawT Try.follows ?_ ?_); decide +kernel) | ((with_reducible refine AWp.drawU Try.follows ?_ ?_); decide +kernel)
    | with_reducible (first | refine awOps_end ?_ | refine awT_end ?_ | refine awU_end ?_ | refine nThen ?_ | refine putKn ?_ | refine nSuf ?_ | refine rThen ?_ | refine eThen ?_ | refine nBlock ?_ | refine eBlock ?_ | refine fBlock (by decide) ?_ | refine rBlock ?_ | refine nScope ?_ | refine eScope ?_ | refine rScope ?_ | refine AWp.seq ?_ | refine AWp.block ?_ | refine AWp.scope ?_ | refine AWp.text ?_ | refine AWp.skip ?_ | refine AWp.exit ?_ | refine AWp.ret ?_ | refine AWp.label ?_ | refine brK_T (by assumption) ?_ | refine brK_F (by assumption) ?_ | refine brK_mk (fun hb => ?_) (fun hb => ?_))
    | ((with_reducible refine And.intro ?_ ?_); focus (first | assumption | omega | (simp only [go_sem, reduceCtorEq]; done)))
    | ((with_reducible (first | refine rBodyZ ?_ | refine nBodyZ ?_ | refine rBodyQ ?_ | refine nBodyQ ?_)); simp only [hd, hall, cnil, go_sem, Nat.reduceAdd, Nat.reduceSub, Nat.reduceMul, Nat.reduceDiv, Nat.reduceMod, Nat.reduceLT, Nat.reduceLeDiff, Nat.reduceEqDiff, Nat.reduceBEq, Nat.reduceBNe, reduceCtorEq, Int.reduceLE, Int.reduceLT, Int.reduceNeg, Int.reduceToNat, Int.reduceAdd, Int.reduceSub, Int.reduceMul, Int.reduceBEq, Int.reduceBNe, Int.reduceEq]))
    rw [← htot]
    refine (grow1 tot hpos (by omega) σ).mono ?_
    rintro r s ⟨cap0, hcap0, rfl, rfl⟩
    simp only [callK, go_sem]
    repeat' (first
    | ((first | ((with_reducible refine awOps_move ?_ ?_); decide +kernel) | ((with_reducible refine awOps_load ?_ ?_); decide +kernel) | ((with_reducible refine awOps_one ?_ ?_); decide +kernel) | (with_reducible refine awOps_feed ?_) | ((with_reducible refine awOps_g ?_); refine awOps_guard rfl ?_) | ((with_reducible refine awT_one ?_ ?_); decide +kernel) | ((with_reducible refine awT_call ?_ ?_); decide +kernel) | ((with_reducible refine awT_g ?_); refine awT_guard rfl ?_) | ((with_reducible refine awU_one ?_ ?_); decide +kernel) | ((with_reducible refine awU_call ?_ ?_); decide +kernel) | ((with_reducible refine awU_g ?_); refine awU_guard rfl ?_) | (with_reducible refine AWp.condH ?_)); intro K Q' hK hQ; simp only [go_sem, Nat.reduceAdd, Nat.reduceSub, Nat.reduceMul, Nat.reduceDiv, Nat.reduceMod, Nat.reduceLT, Nat.reduceLeDiff, Nat.reduceEqDiff, Nat.reduceBEq, Nat.reduceBNe, reduceCtorEq, Int.reduceLE, Int.reduceLT, Int.reduceNeg, Int.reduceToNat, Int.reduceAdd, Int.reduceSub, Int.reduceMul, Int.reduceBEq, Int.reduceBNe, Int.reduceEq]; subst hK hQ)
    | ((with_reducible refine AWp.drawT Try.follows ?_ ?_); decide +kernel) | ((with_reducible refine AWp.drawU Try.follows ?_ ?_); decide +kernel)
    | with_reducible (first | refine awOps_end ?_ | refine awT_end ?_ | refine awU_end ?_ | refine nThen ?_ | refine putKn ?_ | refine nSuf ?_ | refine rThen ?_ | refine eThen ?_ | refine nBlock ?_ | refine eBlock ?_ | refine fBlock (by decide) ?_ | refine rBlock ?_ | refine nScope ?_ | refine eScope ?_ | refine rScope ?_ | refine AWp.seq ?_ | refine AWp.block ?_ | refine AWp.scope ?_ | refine AWp.text ?_ | refine AWp.skip ?_ | refine AWp.exit ?_ | refine AWp.ret ?_ | refine AWp.label ?_ | refine brK_T (by assumption) ?_ | refine brK_F (by assumption) ?_ | refine brK_mk (fun hb => ?_) (fun hb => ?_))
    | ((with_reducible refine And.intro ?_ ?_); focus (first | assumption | omega | (simp only [go_sem, reduceCtorEq]; done)))
    | ((with_reducible (first | refine rBodyZ ?_ | refine nBodyZ ?_ | refine rBodyQ ?_ | refine nBodyQ ?_)); simp only [go_sem, Nat.reduceAdd, Nat.reduceSub, Nat.reduceMul, Nat.reduceDiv, Nat.reduceMod, Nat.reduceLT, Nat.reduceLeDiff, Nat.reduceEqDiff, Nat.reduceBEq, Nat.reduceBNe, reduceCtorEq, Int.reduceLE, Int.reduceLT, Int.reduceNeg, Int.reduceToNat, Int.reduceAdd, Int.reduceSub, Int.reduceMul, Int.reduceBEq, Int.reduceBNe, Int.reduceEq]))
    refine AWp.loop (α := Nat × VecG) (fun x => x.1 ≤ ls.length ∧ (encRs (ls.take x.1).flatten ++ x.2.junk).length = x.2.cap * 2 ∧ (ls.take x.1).flatten.length ≤ x.2.cap) (fun x => ls.length - x.1) (fun x => mkE 36 [(6, .sm (σ.length + x.2.js.length) 0 (ls.take x.1).flatten.length x.2.cap 2), (25, .sl .no ls.length cells), (26, .i .i64 ls.length), (27, .i .i64 x.1)]) (fun x => σ ++ (x.2.js ++ [.cells (encRs (ls.take x.1).flatten ++ x.2.junk)])) (0, ⟨[], cap0, List.replicate (cap0 * 2) .u⟩) ⟨Nat.zero_le _, by simp [encRs], by simp⟩ ?_ ?_ ?_
    · simp only [Int.natCast_zero, List.flatten_nil, go_sem, Nat.reduceAdd, Nat.reduceSub, Nat.reduceMul, Nat.reduceDiv, Nat.reduceMod, Nat.reduceLT, Nat.reduceLeDiff, Nat.reduceEqDiff, Nat.reduceBEq, Nat.reduceBNe, reduceCtorEq, Int.reduceLE, Int.reduceLT, Int.reduceNeg, Int.reduceToNat, Int.reduceAdd, Int.reduceSub, Int.reduceMul, Int.reduceBEq, Int.reduceBNe, Int.reduceEq]
    · exact WeakS.refl _
    rintro ⟨k, js, cap, junk⟩ ⟨hk, hj, hc⟩
    simp only at hk hj hc
    by_cases hlt : k < ls.length
    · have hd : decide ((k : Int) < (ls.length : Int)) = true := by simp; omega
      have hw := wrapS (k := k) (by omega)
      obtain ⟨o, hg⟩ := hgetk k hlt
      have hr : (0 : Int) ≤ (k : Int) ∧ (k : Int) < (ls.length : Int) := by omega
      have hft := flat_take ls k hlt
      have hfl := flat_le ls (k + 1)
      rw [hft, List.length_append] at hfl
      repeat' (first
    | ((first | ((with_reducible refine awOps_move ?_ ?_); decide +kernel) | ((with_reducible refine awOps_load ?_ ?_); decide +kernel) | ((with_reducible refine awOps_one ?_ ?_); decide +kernel) | (with_reducible refine awOps_feed ?_) | ((with_reducible refine awOps_g ?_); refine awOps_guard rfl ?_) | ((with_reducible refine awT_one ?_ ?_); decide +kernel) | ((with_reducible refine awT_call ?_ ?_); decide +kernel) | ((with_reducible refine awT_g ?_); refine awT_guard rfl ?_) | ((with_reducible refine awU_one ?_ ?_); decide +kernel) | ((with_reducible refine awU_call ?_ ?_); decide +kernel) | ((with_reducible refine awU_g ?_); refine awU_guard rfl ?_) | (with_reducible refine AWp.condH ?_)); intro K Q' hK hQ; simp only [hd, hw, hg, hr, go_sem, Nat.reduceAdd, Nat.reduceSub, Nat.reduceMul, Nat.reduceDiv, Nat.reduceMod, Nat.reduceLT, Nat.reduceLeDiff, Nat.reduceEqDiff, Nat.reduceBEq, Nat.reduceBNe, reduceCtorEq, Int.reduceLE, Int.reduceLT, Int.reduceNeg, Int.reduceToNat, Int.reduceAdd, Int.reduceSub, Int.reduceMul, Int.reduceBEq, Int.reduceBNe, Int.reduceEq]; subst hK hQ)
    | ((with_reducible refine AWp.drawT Try.follows ?_ ?_); decide +kernel) | ((with_reducible refine AWp.drawU Try.follows ?_ ?_); decide +kernel)
    | with_reducible (first | refine awOps_end ?_ | refine awT_end ?_ | refine awU_end ?_ | refine nThen ?_ | refine putKn ?_ | refine nSuf ?_ | refine rThen ?_ | refine eThen ?_ | refine nBlock ?_ | refine eBlock ?_ | refine fBlock (by decide) ?_ | refine rBlock ?_ | refine nScope ?_ | refine eScope ?_ | refine rScope ?_ | refine AWp.seq ?_ | refine AWp.block ?_ | refine AWp.scope ?_ | refine AWp.text ?_ | refine AWp.skip ?_ | refine AWp.exit ?_ | refine AWp.ret ?_ | refine AWp.label ?_ | refine brK_T (by assumption) ?_ | refine brK_F (by assumption) ?_ | refine brK_mk (fun hb => ?_) (fun hb => ?_))
    | ((with_reducible refine And.intro ?_ ?_); focus (first | assumption | omega | (simp only [go_sem, reduceCtorEq]; done)))
    | ((with_reducible (first | refine rBodyZ ?_ | refine nBodyZ ?_ | refine rBodyQ ?_ | refine nBodyQ ?_)); simp only [hd, hw, hg, hr, go_sem, Nat.reduceAdd, Nat.reduceSub, Nat.reduceMul, Nat.reduceDiv, Nat.reduceMod, Nat.reduceLT, Nat.reduceLeDiff, Nat.reduceEqDiff, Nat.reduceBEq, Nat.reduceBNe, reduceCtorEq, Int.reduceLE, Int.reduceLT, Int.reduceNeg, Int.reduceToNat, Int.reduceAdd, Int.reduceSub, Int.reduceMul, Int.reduceBEq, Int.reduceBNe, Int.reduceEq]))
      refine appC.r ?_
      simp only [aappendM, asrc, go_sem, Nat.reduceAdd, Nat.reduceSub, Nat.reduceMul, Nat.reduceDiv, Nat.reduceMod, Nat.reduceLT, Nat.reduceLeDiff, Nat.reduceEqDiff, Nat.reduceBEq, Nat.reduceBNe, reduceCtorEq, Int.reduceLE, Int.reduceLT, Int.reduceNeg, Int.reduceToNat, Int.reduceAdd, Int.reduceSub, Int.reduceMul, Int.reduceBEq, Int.reduceBNe, Int.reduceEq]
      refine appM_vec (by rw [encRs_len]; omega) (by rw [encRs_len]; omega) (encRs_one _) (by omega) (by omega) hj hc (fun js' cap' junk' h1 h2 => ?_) (encRs_pl _)
      rw [encRs_pl, ← encRs_app, ← hft] at h1 ⊢
      have h2' : (ls.take (k + 1)).flatten.length ≤ cap' := by rw [hft, List.length_append]; exact h2
      repeat' (first
    | ((first | ((with_reducible refine awOps_move ?_ ?_); decide +kernel) | ((with_reducible refine awOps_load ?_ ?_); decide +kernel) | ((with_reducible refine awOps_one ?_ ?_); decide +kernel) | (with_reducible refine awOps_feed ?_) | ((with_reducible refine awOps_g ?_); refine awOps_guard rfl ?_) | ((with_reducible refine awT_one ?_ ?_); decide +kernel) | ((with_reducible refine awT_call ?_ ?_); decide +kernel) | ((with_reducible refine awT_g ?_); refine awT_guard rfl ?_) | ((with_reducible refine awU_one ?_ ?_); decide +kernel) | ((with_reducible refine awU_call ?_ ?_); decide +kernel) | ((with_reducible refine awU_g ?_); refine awU_guard rfl ?_) | (with_reducible refine AWp.condH ?_)); intro K Q' hK hQ; simp only [hw, go_sem, Nat.reduceAdd, Nat.reduceSub, Nat.reduceMul, Nat.reduceDiv, Nat.reduceMod, Nat.reduceLT, Nat.reduceLeDiff, Nat.reduceEqDiff, Nat.reduceBEq, Nat.reduceBNe, reduceCtorEq, Int.reduceLE, Int.reduceLT, Int.reduceNeg, Int.reduceToNat, Int.reduceAdd, Int.reduceSub, Int.reduceMul, Int.reduceBEq, Int.reduceBNe, Int.reduceEq]; subst hK hQ)
    | ((with_reducible refine AWp.drawT Try.follows ?_ ?_); decide +kernel) | ((with_reducible refine AWp.drawU Try.follows ?_ ?_); decide +kernel)
    | with_reducible (first | refine awOps_end ?_ | refine awT_end ?_ | refine awU_end ?_ | refine nThen ?_ | refine putKn ?_ | refine nSuf ?_ | refine rThen ?_ | refine eThen ?_ | refine nBlock ?_ | refine eBlock ?_ | refine fBlock (by decide) ?_ | refine rBlock ?_ | refine nScope ?_ | refine eScope ?_ | refine rScope ?_ | refine AWp.seq ?_ | refine AWp.block ?_ | refine AWp.scope ?_ | refine AWp.text ?_ | refine AWp.skip ?_ | refine AWp.exit ?_ | refine AWp.ret ?_ | refine AWp.label ?_ | refine brK_T (by assumption) ?_ | refine brK_F (by assumption) ?_ | refine brK_mk (fun hb => ?_) (fun hb => ?_))
    | ((with_reducible refine And.intro ?_ ?_); focus (first | assumption | omega | (simp only [go_sem, reduceCtorEq]; done)))
    | ((with_reducible (first | refine rBodyZ ?_ | refine nBodyZ ?_ | refine rBodyQ ?_ | refine nBodyQ ?_)); simp only [hw, go_sem, Nat.reduceAdd, Nat.reduceSub, Nat.reduceMul, Nat.reduceDiv, Nat.reduceMod, Nat.reduceLT, Nat.reduceLeDiff, Nat.reduceEqDiff, Nat.reduceBEq, Nat.reduceBNe, reduceCtorEq, Int.reduceLE, Int.reduceLT, Int.reduceNeg, Int.reduceToNat, Int.reduceAdd, Int.reduceSub, Int.reduceMul, Int.reduceBEq, Int.reduceBNe, Int.reduceEq]))
      exact ⟨(k + 1, ⟨js', cap', junk'⟩), ⟨by simp only; omega, by simpa using h1, h2'⟩, by simp only; omega, by simp only [hw, hft, List.length_append, go_sem, Nat.reduceAdd, Nat.reduceSub, Nat.reduceMul, Nat.reduceDiv, Nat.reduceMod, Nat.reduceLT, Nat.reduceLeDiff, Nat.reduceEqDiff, Nat.reduceBEq, Nat.reduceBNe, reduceCtorEq, Int.reduceLE, Int.reduceLT, Int.reduceNeg, Int.reduceToNat, Int.reduceAdd, Int.reduceSub, Int.reduceMul, Int.reduceBEq, Int.reduceBNe, Int.reduceEq], WeakS.refl _⟩
    · have hd : decide ((k : Int) < (ls.length : Int)) = false := by simp; omega
      have hkl : k = ls.length := by omega
      subst hkl
      rw [hall] at *
      have hcs : List.take (ls.flatten.length * 2) (List.drop 0 (encRs ls.flatten ++ junk)) = encRs ls.flatten := by
        rw [List.drop_zero]
        exact List.take_left' (by rw [encRs_len]; omega)
      have hvN : vN ls.flatten.length (encRs ls.flatten) = .sl .no ls.flatten.length (encRs ls.flatten) := by
        cases e : ls.flatten.length with
        | zero => exact absurd e h0
        | succ n => rfl
      repeat' (first
    | ((first | ((with_reducible refine awOps_move ?_ ?_); decide +kernel) | ((with_reducible refine awOps_load ?_ ?_); decide +kernel) | ((with_reducible refine awOps_one ?_ ?_); decide +kernel) | (with_reducible refine awOps_feed ?_) | ((with_reducible refine awOps_g ?_); refine awOps_guard rfl ?_) | ((with_reducible refine awT_one ?_ ?_); decide +kernel) | ((with_reducible refine awT_call ?_ ?_); decide +kernel) | ((with_reducible refine awT_g ?_); refine awT_guard rfl ?_) | ((with_reducible refine awU_one ?_ ?_); decide +kernel) | ((with_reducible refine awU_call ?_ ?_); decide +kernel) | ((with_reducible refine awU_g ?_); refine awU_guard rfl ?_) | (with_reducible refine AWp.condH ?_)); intro K Q' hK hQ; simp only [hd, hcs, go_sem, Nat.reduceAdd, Nat.reduceSub, Nat.reduceMul, Nat.reduceDiv, Nat.reduceMod, Nat.reduceLT, Nat.reduceLeDiff, Nat.reduceEqDiff, Nat.reduceBEq, Nat.reduceBNe, reduceCtorEq, Int.reduceLE, Int.reduceLT, Int.reduceNeg, Int.reduceToNat, Int.reduceAdd, Int.reduceSub, Int.reduceMul, Int.reduceBEq, Int.reduceBNe, Int.reduceEq]; subst hK hQ)
    | ((with_reducible refine AWp.drawT Try.follows ?_ ?_); decide +kernel) | ((with_reducible refine AWp.drawU Try.follows ?_ ?_); decide +kernel)
    | with_reducible (first | refine awOps_end ?_ | refine awT_end ?_ | refine awU_end ?_ | refine nThen ?_ | refine putKn ?_ | refine nSuf ?_ | refine rThen ?_ | refine eThen ?_ | refine nBlock ?_ | refine eBlock ?_ | refine fBlock (by decide) ?_ | refine rBlock ?_ | refine nScope ?_ | refine eScope ?_ | refine rScope ?_ | refine AWp.seq ?_ | refine AWp.block ?_ | refine AWp.scope ?_ | refine AWp.text ?_ | refine AWp.skip ?_ | refine AWp.exit ?_ | refine AWp.ret ?_ | refine AWp.label ?_ | refine brK_T (by assumption) ?_ | refine brK_F (by assumption) ?_ | refine brK_mk (fun hb => ?_) (fun hb => ?_))
    | ((with_reducible refine And.intro ?_ ?_); focus (first | assumption | omega | (simp only [go_sem, reduceCtorEq]; done)))
    | ((with_reducible (first | refine rBodyZ ?_ | refine nBodyZ ?_ | refine rBodyQ ?_ | refine nBodyQ ?_)); simp only [hd, hcs, go_sem, Nat.reduceAdd, Nat.reduceSub, Nat.reduceMul, Nat.reduceDiv, Nat.reduceMod, Nat.reduceLT, Nat.reduceLeDiff, Nat.reduceEqDiff, Nat.reduceBEq, Nat.reduceBNe, reduceCtorEq, Int.reduceLE, Int.reduceLT, Int.reduceNeg, Int.reduceToNat, Int.reduceAdd, Int.reduceSub, Int.reduceMul, Int.reduceBEq, Int.reduceBNe, Int.reduceEq]))
      rw [htot, hvN]
      exact ⟨cleanRs _ _, rfl, rfl⟩
end Go.Proofs.Ytoofpdmdgofdcaa.L

namespace Go.Proofs.Ytoofpdmdgofdcaa.L
open Go Go.RowKit Go.Proofs.Ytoofpdmdgofdcaa.E
set_option linter.unusedVariables false
set_option linter.unusedSimpArgs false
set_option maxRecDepth 10000
set_option maxHeartbeats 1000000
theorem keysC (id : Nat) (σ : AState) (hid : id < σ.length) : ACalls Try.prog G0 38 [.mp id] (σ) (retIs (.fn 44 [.pi [.mp id] 0]) σ) := by
  refine ACalls.bodyZ G0_pl Try.func38 rfl (by rfl) (by decide) ?_; simp only [Try.ntmps38, List.replicate, go_sem, Nat.reduceAdd, Nat.reduceSub]
  repeat' (first
    | ((first | ((with_reducible refine awOps_move ?_ ?_); decide +kernel) | ((with_reducible refine awOps_load ?_ ?_); decide +kernel) | ((with_reducible refine awOps_one ?_ ?_); decide +kernel) | (with_reducible refine awOps_feed ?_) | ((with_reducible refine awOps_g ?_); refine awOps_guard rfl ?_) | ((with_reducible refine awT_one ?_ ?_); decide +kernel) | ((with_reducible refine awT_call ?_ ?_); decide +kernel) | ((with_reducible refine awT_g ?_); refine awT_guard rfl ?_) | ((with_reducible refine awU_one ?_ ?_); decide +kernel) | ((with_reducible refine awU_call ?_ ?_); decide +kernel) | ((with_reducible refine awU_g ?_); refine awU_guard rfl ?_) | (with_reducible refine AWp.condH ?_)); intro K Q' hK hQ; simp only [go_sem, Nat.reduceAdd, Nat.reduceSub, Nat.reduceMul, Nat.reduceDiv, Nat.reduceMod, Nat.reduceLT, Nat.reduceLeDiff, Nat.reduceEqDiff, Nat.reduceBEq, Nat.reduceBNe, reduceCtorEq, Int.reduceLE, Int.reduceLT, Int.reduceNeg, Int.reduceToNat, Int.reduceAdd, Int.reduceSub, Int.reduceMul, Int.reduceBEq, Int.reduceBNe, Int.reduceEq]; subst hK hQ)
    | ((with_reducible refine AWp.drawT Try.follows ?_ ?_); decide +kernel) | ((with_reducible refine AWp.drawU Try.follows ?_ ?_); decide +kernel)
    | with_reducible (first | refine awOps_end ?_ | refine awT_end ?_ | refine awU_end ?_ | refine nThen ?_ | refine putKn ?_ | refine nSuf ?_ | refine rThen ?_ | refine eThen ?_ | refine nBlock ?_ | refine eBlock ?_ | refine fBlock (by decide) ?_ | refine rBlock ?_ | refine nScope ?_ | refine eScope ?_ | refine rScope ?_ | refine AWp.seq ?_ | refine AWp.block ?_ | refine AWp.scope ?_ | refine AWp.text ?_ | refine AWp.skip ?_ | refine AWp.exit ?_ | refine AWp.ret ?_ | refine AWp.label ?_ | refine brK_T (by assumption) ?_ | refine brK_F (by assumption) ?_ | refine brK_mk (fun hb => ?_) (fun hb => ?_))
    | ((with_reducible refine And.intro ?_ ?_); focus (first | assumption | omega | (simp only [go_sem, reduceCtorEq]; done)))
    | ((with_reducible (first | refine rBodyZ ?_ | refine nBodyZ ?_ | refine rBodyQ ?_ | refine nBodyQ ?_)); simp only [go_sem, Nat.reduceAdd, Nat.reduceSub, Nat.reduceMul, Nat.reduceDiv, Nat.reduceMod, Nat.reduceLT, Nat.reduceLeDiff, Nat.reduceEqDiff, Nat.reduceBEq, Nat.reduceBNe, reduceCtorEq, Int.reduceLE, Int.reduceLT, Int.reduceNeg, Int.reduceToNat, Int.reduceAdd, Int.reduceSub, Int.reduceMul, Int.reduceBEq, Int.reduceBNe, Int.reduceEq]))
  exact ⟨by simp [hid], rfl, rfl⟩
theorem vN_sl (l : List PRec) : ∃ o, vN l.length (encRs l) = .sl o l.length (encRs l) := by cases l <;> exact ⟨_, rfl⟩
theorem items_inj {a b : List (List UInt8)} (h : items a = items b) : a = b := by
  have := congrArg (List.map fun x => match x with | [AV.s k] => k | _ => []) h
  simpa [items, List.map_map, Function.comp_def] using this
theorem keep_snoc (l : List PRec) (ks : List (List UInt8)) (k v : List UInt8) (h : lastOf l k = some v) : keepOf l (ks ++ [k]) = keepOf l ks ++ (if v = [] then [] else [(k, v)]) := by
  simp only [keepOf, List.filterMap_append, List.filterMap_cons, List.filterMap_nil, h]
  split <;> simp_all
theorem keep_le (l : List PRec) (ks : List (List UInt8)) : (keepOf l ks).length ≤ ks.length := List.length_filterMap_le _ _
theorem merge (l : List PRec) (hl : l.length ≤ 274877906944) (σ : AState) :
    ACalls Try.prog G0 24 [.sl .no l.length (encRs l), .sl .nil 0 []] σ (fun r s => ∃ L, IsMerge l L ∧ r = .ret (vN L.length (encRs L)) ∧ s = σ) := by
  refine ACalls.bodyZ G0_pl Try.func24 rfl (by rfl) (by decide) ?_; simp only [Try.ntmps24, List.replicate, go_sem, Nat.reduceAdd, Nat.reduceSub]
  repeat' (first
    | ((first | ((with_reducible refine awOps_move ?_ ?_); decide +kernel) | ((with_reducible refine awOps_load ?_ ?_); decide +kernel) | ((with_reducible refine awOps_one ?_ ?_); decide +kernel) | (with_reducible refine awOps_feed ?_) | ((with_reducible refine awOps_g ?_); refine awOps_guard rfl ?_) | ((with_reducible refine awT_one ?_ ?_); decide +kernel) | ((with_reducible refine awT_call ?_ ?_); decide +kernel) | ((with_reducible refine awT_g ?_); refine awT_guard rfl ?_) | ((with_reducible refine awU_one ?_ ?_); decide +kernel) | ((with_reducible refine awU_call ?_ ?_); decide +kernel) | ((with_reducible refine awU_g ?_); refine awU_guard rfl ?_) | (with_reducible refine AWp.condH ?_)); intro K Q' hK hQ; simp only [cnil, go_sem, Nat.reduceAdd, Nat.reduceSub, Nat.reduceMul, Nat.reduceDiv, Nat.reduceMod, Nat.reduceLT, Nat.reduceLeDiff, Nat.reduceEqDiff, Nat.reduceBEq, Nat.reduceBNe, reduceCtorEq, Int.reduceLE, Int.reduceLT, Int.reduceNeg, Int.reduceToNat, Int.reduceAdd, Int.reduceSub, Int.reduceMul, Int.reduceBEq, Int.reduceBNe, Int.reduceEq]; subst hK hQ)
    | ((with_reducible refine AWp.drawT Try.follows ?_ ?_); decide +kernel) | ((with_reducible refine AWp.drawU Try.follows ?_ ?_); decide +kernel)
    | with_reducible (first | refine awOps_end ?_ | refine awT_end ?_ | refine awU_end ?_ | refine nThen ?_ | refine putKn ?_ | refine nSuf ?_ | refine rThen ?_ | refine eThen ?_ | refine nBlock ?_ | refine eBlock ?_ | refine fBlock (by decide) ?_ | refine rBlock ?_ | refine nScope ?_ | refine eScope ?_ | refine rScope ?_ | refine AWp.seq ?_ | refine AWp.block ?_ | refine AWp.scope ?_ | refine AWp.text ?_ | refine AWp.skip ?_ | refine AWp.exit ?_ | refine AWp.ret ?_ | refine AWp.label ?_ | refine brK_T (by assumption) ?_ | refine brK_F (by assumption) ?_ | refine brK_mk (fun hb => ?_) (fun hb => ?_))
    | ((with_reducible refine And.intro ?_ ?_); focus (first | assumption | omega | (simp only [go_sem, reduceCtorEq]; done)))
    | ((with_reducible (first | refine rBodyZ ?_ | refine nBodyZ ?_ | refine rBodyQ ?_ | refine nBodyQ ?_)); simp only [cnil, go_sem, Nat.reduceAdd, Nat.reduceSub, Nat.reduceMul, Nat.reduceDiv, Nat.reduceMod, Nat.reduceLT, Nat.reduceLeDiff, Nat.reduceEqDiff, Nat.reduceBEq, Nat.reduceBNe, reduceCtorEq, Int.reduceLE, Int.reduceLT, Int.reduceNeg, Int.reduceToNat, Int.reduceAdd, Int.reduceSub, Int.reduceMul, Int.reduceBEq, Int.reduceBNe, Int.reduceEq]))
  have hfl : [l, []].flatten = l := by simp
  have hcc := concat [l, []] [.sl .no l.length (encRs l), .sl .no 0 []] (fun k h => by
    match k with
    | 0 => exact ⟨_, rfl⟩
    | 1 => exact ⟨_, rfl⟩
    | k + 2 => simp at h; omega) (by simp) (by rw [hfl]; omega) (σ ++ [.map []])
  rw [hfl] at hcc
  simp only [List.length_cons, List.length_nil, Nat.zero_add, Nat.reduceAdd] at hcc
  refine ACalls.use hcc ?_
  obtain ⟨o, ho⟩ := vN_sl l
  rw [ho]
  repeat' (first
    | ((first | ((with_reducible refine awOps_move ?_ ?_); decide +kernel) | ((with_reducible refine awOps_load ?_ ?_); decide +kernel) | ((with_reducible refine awOps_one ?_ ?_); decide +kernel) | (with_reducible refine awOps_feed ?_) | ((with_reducible refine awOps_g ?_); refine awOps_guard rfl ?_) | ((with_reducible refine awT_one ?_ ?_); decide +kernel) | ((with_reducible refine awT_call ?_ ?_); decide +kernel) | ((with_reducible refine awT_g ?_); refine awT_guard rfl ?_) | ((with_reducible refine awU_one ?_ ?_); decide +kernel) | ((with_reducible refine awU_call ?_ ?_); decide +kernel) | ((with_reducible refine awU_g ?_); refine awU_guard rfl ?_) | (with_reducible refine AWp.condH ?_)); intro K Q' hK hQ; simp only [go_sem, Nat.reduceAdd, Nat.reduceSub, Nat.reduceMul, Nat.reduceDiv, Nat.reduceMod, Nat.reduceLT, Nat.reduceLeDiff, Nat.reduceEqDiff, Nat.reduceBEq, Nat.reduceBNe, reduceCtorEq, Int.reduceLE, Int.reduceLT, Int.reduceNeg, Int.reduceToNat, Int.reduceAdd, Int.reduceSub, Int.reduceMul, Int.reduceBEq, Int.reduceBNe, Int.reduceEq]; subst hK hQ)
    | ((with_reducible refine AWp.drawT Try.follows ?_ ?_); decide +kernel) | ((with_reducible refine AWp.drawU Try.follows ?_ ?_); decide +kernel)
    | with_reducible (first | refine awOps_end ?_ | refine awT_end ?_ | refine awU_end ?_ | refine nThen ?_ | refine putKn ?_ | refine nSuf ?_ | refine rThen ?_ | refine eThen ?_ | refine nBlock ?_ | refine eBlock ?_ | refine fBlock (by decide) ?_ | refine rBlock ?_ | refine nScope ?_ | refine eScope ?_ | refine rScope ?_ | refine AWp.seq ?_ | refine AWp.block ?_ | refine AWp.scope ?_ | refine AWp.text ?_ | refine AWp.skip ?_ | refine AWp.exit ?_ | refine AWp.ret ?_ | refine AWp.label ?_ | refine brK_T (by assumption) ?_ | refine brK_F (by assumption) ?_ | refine brK_mk (fun hb => ?_) (fun hb => ?_))
    | ((with_reducible refine And.intro ?_ ?_); focus (first | assumption | omega | (simp only [go_sem, reduceCtorEq]; done)))
    | ((with_reducible (first | refine rBodyZ ?_ | refine nBodyZ ?_ | refine rBodyQ ?_ | refine nBodyQ ?_)); simp only [go_sem, Nat.reduceAdd, Nat.reduceSub, Nat.reduceMul, Nat.reduceDiv, Nat.reduceMod, Nat.reduceLT, Nat.reduceLeDiff, Nat.reduceEqDiff, Nat.reduceBEq, Nat.reduceBNe, reduceCtorEq, Int.reduceLE, Int.reduceLT, Int.reduceNeg, Int.reduceToNat, Int.reduceAdd, Int.reduceSub, Int.reduceMul, Int.reduceBEq, Int.reduceBNe, Int.reduceEq]))
  refine AWp.loop (α := Nat × AState) (fun x => x.1 ≤ l.length) (fun x => l.length - x.1) (fun x => mkE 49 [(5, .mp σ.length), (15, .sl .no l.length (encRs l)), (16, .i .i64 l.length), (17, .i .i64 x.1)]) (fun x => σ ++ (.map (encM (mapOf (l.take x.1))) :: x.2)) (0, []) (Nat.zero_le _) ?_ ?_ ?_
  · simp only [Int.natCast_zero, go_sem, Nat.reduceAdd, Nat.reduceSub, Nat.reduceMul, Nat.reduceDiv, Nat.reduceMod, Nat.reduceLT, Nat.reduceLeDiff, Nat.reduceEqDiff, Nat.reduceBEq, Nat.reduceBNe, reduceCtorEq, Int.reduceLE, Int.reduceLT, Int.reduceNeg, Int.reduceToNat, Int.reduceAdd, Int.reduceSub, Int.reduceMul, Int.reduceBEq, Int.reduceBNe, Int.reduceEq]
  · exact WeakS.refl _
  rintro ⟨k, js⟩ hk
  simp only at hk
  by_cases hlt : k < l.length
  · have hd : decide ((k : Int) < (l.length : Int)) = true := by simp; omega
    have hw := wrapS (k := k) (by omega)
    obtain ⟨h1, h2⟩ := encRs_get l k l[k] (List.getElem?_eq_getElem hlt)
    have hr : (0 : Int) ≤ (k : Int) ∧ (k : Int) < (l.length : Int) := by omega
    obtain ⟨r, hf, hp⟩ := mfind_enc l[k].1 l[k].2 (mapOf (l.take k))
    have hsn : mapOf (l.take (k + 1)) = upd l[k].1 l[k].2 (mapOf (l.take k)) := by rw [List.take_add_one, List.getElem?_eq_getElem hlt]; exact mapOf_snoc _ _
    repeat' (first
    | ((first | ((with_reducible refine awOps_move ?_ ?_); decide +kernel) | ((with_reducible refine awOps_load ?_ ?_); decide +kernel) | ((with_reducible refine awOps_one ?_ ?_); decide +kernel) | (with_reducible refine awOps_feed ?_) | ((with_reducible refine awOps_g ?_); refine awOps_guard rfl ?_) | ((with_reducible refine awT_one ?_ ?_); decide +kernel) | ((with_reducible refine awT_call ?_ ?_); decide +kernel) | ((with_reducible refine awT_g ?_); refine awT_guard rfl ?_) | ((with_reducible refine awU_one ?_ ?_); decide +kernel) | ((with_reducible refine awU_call ?_ ?_); decide +kernel) | ((with_reducible refine awU_g ?_); refine awU_guard rfl ?_) | (with_reducible refine AWp.condH ?_)); intro K Q' hK hQ; simp only [hd, hw, h1, h2, hr, hf, hp, go_sem, Nat.reduceAdd, Nat.reduceSub, Nat.reduceMul, Nat.reduceDiv, Nat.reduceMod, Nat.reduceLT, Nat.reduceLeDiff, Nat.reduceEqDiff, Nat.reduceBEq, Nat.reduceBNe, reduceCtorEq, Int.reduceLE, Int.reduceLT, Int.reduceNeg, Int.reduceToNat, Int.reduceAdd, Int.reduceSub, Int.reduceMul, Int.reduceBEq, Int.reduceBNe, Int.reduceEq]; subst hK hQ)
    | ((with_reducible refine AWp.drawT Try.follows ?_ ?_); decide +kernel) | ((with_reducible refine AWp.drawU Try.follows ?_ ?_); decide +kernel)
    | with_reducible (first | refine awOps_end ?_ | refine awT_end ?_ | refine awU_end ?_ | refine nThen ?_ | refine putKn ?_ | refine nSuf ?_ | refine rThen ?_ | refine eThen ?_ | refine nBlock ?_ | refine eBlock ?_ | refine fBlock (by decide) ?_ | refine rBlock ?_ | refine nScope ?_ | refine eScope ?_ | refine rScope ?_ | refine AWp.seq ?_ | refine AWp.block ?_ | refine AWp.scope ?_ | refine AWp.text ?_ | refine AWp.skip ?_ | refine AWp.exit ?_ | refine AWp.ret ?_ | refine AWp.label ?_ | refine brK_T (by assumption) ?_ | refine brK_F (by assumption) ?_ | refine brK_mk (fun hb => ?_) (fun hb => ?_))
    | ((with_reducible refine And.intro ?_ ?_); focus (first | assumption | omega | (simp only [go_sem, reduceCtorEq]; done)))
    | ((with_reducible (first | refine rBodyZ ?_ | refine nBodyZ ?_ | refine rBodyQ ?_ | refine nBodyQ ?_)); simp only [hd, hw, h1, h2, hr, hf, hp, go_sem, Nat.reduceAdd, Nat.reduceSub, Nat.reduceMul, Nat.reduceDiv, Nat.reduceMod, Nat.reduceLT, Nat.reduceLeDiff, Nat.reduceEqDiff, Nat.reduceBEq, Nat.reduceBNe, reduceCtorEq, Int.reduceLE, Int.reduceLT, Int.reduceNeg, Int.reduceToNat, Int.reduceAdd, Int.reduceSub, Int.reduceMul, Int.reduceBEq, Int.reduceBNe, Int.reduceEq]))
    exact ⟨(k + 1, _), by simp only; omega, by simp only; omega, by simp only [hw, go_sem, Nat.reduceAdd, Nat.reduceSub, Nat.reduceMul, Nat.reduceDiv, Nat.reduceMod, Nat.reduceLT, Nat.reduceLeDiff, Nat.reduceEqDiff, Nat.reduceBEq, Nat.reduceBNe, reduceCtorEq, Int.reduceLE, Int.reduceLT, Int.reduceNeg, Int.reduceToNat, Int.reduceAdd, Int.reduceSub, Int.reduceMul, Int.reduceBEq, Int.reduceBNe, Int.reduceEq], by show WeakS _ (σ ++ (.map (encM (mapOf (l.take (k + 1)))) :: _)); rw [hsn]; exact WeakS.refl _⟩
  have hd : decide ((k : Int) < (l.length : Int)) = false := by simp; omega
  have hkl : k = l.length := by omega
  subst hkl
  rw [List.take_length]
  repeat' (first
    | ((first | ((with_reducible refine awOps_move ?_ ?_); decide +kernel) | ((with_reducible refine awOps_load ?_ ?_); decide +kernel) | ((with_reducible refine awOps_one ?_ ?_); decide +kernel) | (with_reducible refine awOps_feed ?_) | ((with_reducible refine awOps_g ?_); refine awOps_guard rfl ?_) | ((with_reducible refine awT_one ?_ ?_); decide +kernel) | ((with_reducible refine awT_call ?_ ?_); decide +kernel) | ((with_reducible refine awT_g ?_); refine awT_guard rfl ?_) | ((with_reducible refine awU_one ?_ ?_); decide +kernel) | ((with_reducible refine awU_call ?_ ?_); decide +kernel) | ((with_reducible refine awU_g ?_); refine awU_guard rfl ?_) | (with_reducible refine AWp.condH ?_)); intro K Q' hK hQ; simp only [hd, cnil, go_sem, Nat.reduceAdd, Nat.reduceSub, Nat.reduceMul, Nat.reduceDiv, Nat.reduceMod, Nat.reduceLT, Nat.reduceLeDiff, Nat.reduceEqDiff, Nat.reduceBEq, Nat.reduceBNe, reduceCtorEq, Int.reduceLE, Int.reduceLT, Int.reduceNeg, Int.reduceToNat, Int.reduceAdd, Int.reduceSub, Int.reduceMul, Int.reduceBEq, Int.reduceBNe, Int.reduceEq]; subst hK hQ)
    | ((with_reducible refine AWp.drawT Try.follows ?_ ?_); decide +kernel) | ((with_reducible refine AWp.drawU Try.follows ?_ ?_); decide +kernel)
    | with_reducible (first | refine awOps_end ?_ | refine awT_end ?_ | refine awU_end ?_ | refine nThen ?_ | refine putKn ?_ | refine nSuf ?_ | refine rThen ?_ | refine eThen ?_ | refine nBlock ?_ | refine eBlock ?_ | refine fBlock (by decide) ?_ | refine rBlock ?_ | refine nScope ?_ | refine eScope ?_ | refine rScope ?_ | refine AWp.seq ?_ | refine AWp.block ?_ | refine AWp.scope ?_ | refine AWp.text ?_ | refine AWp.skip ?_ | refine AWp.exit ?_ | refine AWp.ret ?_ | refine AWp.label ?_ | refine brK_T (by assumption) ?_ | refine brK_F (by assumption) ?_ | refine brK_mk (fun hb => ?_) (fun hb => ?_))
    | ((with_reducible refine And.intro ?_ ?_); focus (first | assumption | omega | (simp only [go_sem, reduceCtorEq]; done)))
    | ((with_reducible (first | refine rBodyZ ?_ | refine nBodyZ ?_ | refine rBodyQ ?_ | refine nBodyQ ?_)); simp only [hd, cnil, go_sem, Nat.reduceAdd, Nat.reduceSub, Nat.reduceMul, Nat.reduceDiv, Nat.reduceMod, Nat.reduceLT, Nat.reduceLeDiff, Nat.reduceEqDiff, Nat.reduceBEq, Nat.reduceBNe, reduceCtorEq, Int.reduceLE, Int.reduceLT, Int.reduceNeg, Int.reduceToNat, Int.reduceAdd, Int.reduceSub, Int.reduceMul, Int.reduceBEq, Int.reduceBNe, Int.reduceEq]))
  refine ACalls.use (keysC _ _ (by simp)) ?_
  repeat' (first
    | ((first | ((with_reducible refine awOps_move ?_ ?_); decide +kernel) | ((with_reducible refine awOps_load ?_ ?_); decide +kernel) | ((with_reducible refine awOps_one ?_ ?_); decide +kernel) | (with_reducible refine awOps_feed ?_) | ((with_reducible refine awOps_g ?_); refine awOps_guard rfl ?_) | ((with_reducible refine awT_one ?_ ?_); decide +kernel) | ((with_reducible refine awT_call ?_ ?_); decide +kernel) | ((with_reducible refine awT_g ?_); refine awT_guard rfl ?_) | ((with_reducible refine awU_one ?_ ?_); decide +kernel) | ((with_reducible refine awU_call ?_ ?_); decide +kernel) | ((with_reducible refine awU_g ?_); refine awU_guard rfl ?_) | (with_reducible refine AWp.condH ?_)); intro K Q' hK hQ; simp only [go_sem, Nat.reduceAdd, Nat.reduceSub, Nat.reduceMul, Nat.reduceDiv, Nat.reduceMod, Nat.reduceLT, Nat.reduceLeDiff, Nat.reduceEqDiff, Nat.reduceBEq, Nat.reduceBNe, reduceCtorEq, Int.reduceLE, Int.reduceLT, Int.reduceNeg, Int.reduceToNat, Int.reduceAdd, Int.reduceSub, Int.reduceMul, Int.reduceBEq, Int.reduceBNe, Int.reduceEq]; subst hK hQ)
    | ((with_reducible refine AWp.drawT Try.follows ?_ ?_); decide +kernel) | ((with_reducible refine AWp.drawU Try.follows ?_ ?_); decide +kernel)
    | with_reducible (first | refine awOps_end ?_ | refine awT_end ?_ | refine awU_end ?_ | refine nThen ?_ | refine putKn ?_ | refine nSuf ?_ | refine rThen ?_ | refine eThen ?_ | refine nBlock ?_ | refine eBlock ?_ | refine fBlock (by decide) ?_ | refine rBlock ?_ | refine nScope ?_ | refine eScope ?_ | refine rScope ?_ | refine AWp.seq ?_ | refine AWp.block ?_ | refine AWp.scope ?_ | refine AWp.text ?_ | refine AWp.skip ?_ | refine AWp.exit ?_ | refine AWp.ret ?_ | refine AWp.label ?_ | refine brK_T (by assumption) ?_ | refine brK_F (by assumption) ?_ | refine brK_mk (fun hb => ?_) (fun hb => ?_))
    | ((with_reducible refine And.intro ?_ ?_); focus (first | assumption | omega | (simp only [go_sem, reduceCtorEq]; done)))
    | ((with_reducible (first | refine rBodyZ ?_ | refine nBodyZ ?_ | refine rBodyQ ?_ | refine nBodyQ ?_)); simp only [go_sem, Nat.reduceAdd, Nat.reduceSub, Nat.reduceMul, Nat.reduceDiv, Nat.reduceMod, Nat.reduceLT, Nat.reduceLeDiff, Nat.reduceEqDiff, Nat.reduceBEq, Nat.reduceBNe, reduceCtorEq, Int.reduceLE, Int.reduceLT, Int.reduceNeg, Int.reduceToNat, Int.reduceAdd, Int.reduceSub, Int.reduceMul, Int.reduceBEq, Int.reduceBNe, Int.reduceEq]))
  have hI : ∀ x, ((σ ++ AObj.map (encM (mapOf l)) :: js) ++ x)[σ.length]? = some (.map (encM (mapOf l))) := fun x => by rw [List.append_assoc, st_get0]; rfl
  refine (sortedK (f := 44) (cap := [.pi [.mp σ.length] 0]) Try.func44 rfl (by rfl) (keys1 (mapOf l) σ.length (Nat.le_trans (mapOf_len l) (by omega))) hI (fun dn x h => h) (Nat.le_trans (mapOf_len l) (by omega))).mono ?_
  rintro r s ⟨ks, ⟨ks', hks, hperm⟩, rfl, rfl⟩
  have := items_inj hks
  subst this
  simp only [callK, go_sem]
  have hml : (ks.mergeSort fun x y => decide (x ≤ y)).length = ks.length := List.length_mergeSort _
  have hM := isMerge l ks hperm
  have hmem : ∀ k ∈ (ks.mergeSort fun x y => decide (x ≤ y)), k ∈ (mapOf l).map (·.1) := fun k hk => hperm.mem_iff.1 (List.mem_mergeSort.1 hk)
  have hkl : ks.length ≤ l.length := by rw [hperm.length_eq, List.length_map]; exact mapOf_len l
  rw [← hml]
  rw [← hml] at hkl
  generalize (ks.mergeSort fun x y => decide (x ≤ y)) = S at *
  repeat' (first
    | ((first | ((with_reducible refine awOps_move ?_ ?_); decide +kernel) | ((with_reducible refine awOps_load ?_ ?_); decide +kernel) | ((with_reducible refine awOps_one ?_ ?_); decide +kernel) | (with_reducible refine awOps_feed ?_) | ((with_reducible refine awOps_g ?_); refine awOps_guard rfl ?_) | ((with_reducible refine awT_one ?_ ?_); decide +kernel) | ((with_reducible refine awT_call ?_ ?_); decide +kernel) | ((with_reducible refine awT_g ?_); refine awT_guard rfl ?_) | ((with_reducible refine awU_one ?_ ?_); decide +kernel) | ((with_reducible refine awU_call ?_ ?_); decide +kernel) | ((with_reducible refine awU_g ?_); refine awU_guard rfl ?_) | (with_reducible refine AWp.condH ?_)); intro K Q' hK hQ; simp only [go_sem, Nat.reduceAdd, Nat.reduceSub, Nat.reduceMul, Nat.reduceDiv, Nat.reduceMod, Nat.reduceLT, Nat.reduceLeDiff, Nat.reduceEqDiff, Nat.reduceBEq, Nat.reduceBNe, reduceCtorEq, Int.reduceLE, Int.reduceLT, Int.reduceNeg, Int.reduceToNat, Int.reduceAdd, Int.reduceSub, Int.reduceMul, Int.reduceBEq, Int.reduceBNe, Int.reduceEq]; subst hK hQ)
    | ((with_reducible refine AWp.drawT Try.follows ?_ ?_); decide +kernel) | ((with_reducible refine AWp.drawU Try.follows ?_ ?_); decide +kernel)
    | with_reducible (first | refine awOps_end ?_ | refine awT_end ?_ | refine awU_end ?_ | refine nThen ?_ | refine putKn ?_ | refine nSuf ?_ | refine rThen ?_ | refine eThen ?_ | refine nBlock ?_ | refine eBlock ?_ | refine fBlock (by decide) ?_ | refine rBlock ?_ | refine nScope ?_ | refine eScope ?_ | refine rScope ?_ | refine AWp.seq ?_ | refine AWp.block ?_ | refine AWp.scope ?_ | refine AWp.text ?_ | refine AWp.skip ?_ | refine AWp.exit ?_ | refine AWp.ret ?_ | refine AWp.label ?_ | refine brK_T (by assumption) ?_ | refine brK_F (by assumption) ?_ | refine brK_mk (fun hb => ?_) (fun hb => ?_))
    | ((with_reducible refine And.intro ?_ ?_); focus (first | assumption | omega | (simp only [go_sem, reduceCtorEq]; done)))
    | ((with_reducible (first | refine rBodyZ ?_ | refine nBodyZ ?_ | refine rBodyQ ?_ | refine nBodyQ ?_)); simp only [go_sem, Nat.reduceAdd, Nat.reduceSub, Nat.reduceMul, Nat.reduceDiv, Nat.reduceMod, Nat.reduceLT, Nat.reduceLeDiff, Nat.reduceEqDiff, Nat.reduceBEq, Nat.reduceBNe, reduceCtorEq, Int.reduceLE, Int.reduceLT, Int.reduceNeg, Int.reduceToNat, Int.reduceAdd, Int.reduceSub, Int.reduceMul, Int.reduceBEq, Int.reduceBNe, Int.reduceEq]))
  obtain ⟨B, hB⟩ : ∃ B, B = σ ++ AObj.map (encM (mapOf l)) :: js := ⟨_, rfl⟩
  have hsg : ∀ k (h : k < S.length), (strs S)[k]? = some (.s S[k]) := fun k h => by simp [h]
  refine AWp.loop (α := Nat × VecG) (fun x => x.1 ≤ S.length ∧ VOK x.2 2 (keepOf l (S.take x.1)).length (encRs (keepOf l (S.take x.1)))) (fun x => S.length - x.1) (fun x => mkE 49 [(5, .mp σ.length), (8, vV B x.2 2 (keepOf l (S.take x.1)).length), (29, .sl .no S.length (strs S)), (30, .i .i64 S.length), (31, .i .i64 x.1)]) (fun x => vS B x.2 (keepOf l (S.take x.1)).length (encRs (keepOf l (S.take x.1)))) (0, ⟨[], 0, []⟩) ⟨Nat.zero_le _, VOK.nil []⟩ ?_ ?_ ?_
  · simp only [Int.natCast_zero, keepOf, vV0, List.take_zero, List.filterMap_nil, List.length_nil, go_sem, Nat.reduceAdd, Nat.reduceSub, Nat.reduceMul, Nat.reduceDiv, Nat.reduceMod, Nat.reduceLT, Nat.reduceLeDiff, Nat.reduceEqDiff, Nat.reduceBEq, Nat.reduceBNe, reduceCtorEq, Int.reduceLE, Int.reduceLT, Int.reduceNeg, Int.reduceToNat, Int.reduceAdd, Int.reduceSub, Int.reduceMul, Int.reduceBEq, Int.reduceBNe, Int.reduceEq]
  · simp only [List.take_zero, keepOf, List.filterMap_nil, List.length_nil, vS, List.append_nil]
    rw [hB]
    exact WeakS.refl _
  rintro ⟨k, v⟩ ⟨hk, hv⟩
  simp only at hk hv
  have hvs : ∀ v n cs, vS B v n cs = σ ++ (.map (encM (mapOf l)) :: (js ++ nwOf v n cs)) := fun v n cs => by rw [vS_nw, hB]; simp
  by_cases hlt : k < S.length
  · have hd : decide ((k : Int) < (S.length : Int)) = true := by simp; omega
    have hw := wrapS (k := k) (by omega)
    have hr : (0 : Int) ≤ (k : Int) ∧ (k : Int) < (S.length : Int) := by omega
    have hg := hsg k hlt
    obtain ⟨x, hx⟩ := look_mem.1 (hmem S[k] (List.getElem_mem hlt))
    have hget : ∀ P et, mget P et S[k] (encM (mapOf l)) = some (.s x, true) := fun P et => mget_enc _ _ _ hx
    rw [look_mapOf] at hx
    have hsn := keep_snoc l (S.take k) S[k] x hx
    rw [show S.take k ++ [S[k]] = S.take (k + 1) by rw [List.take_add_one, List.getElem?_eq_getElem hlt]; rfl] at hsn
    have hkk := keep_le l (S.take k)
    rw [List.length_take] at hkk
    by_cases hx0 : x = []
    · have hb0 : (x == []) = true := by simp [hx0]
      rw [if_pos hx0, List.append_nil] at hsn
      rw [hvs]
      repeat' (first
    | ((first | ((with_reducible refine awOps_move ?_ ?_); decide +kernel) | ((with_reducible refine awOps_load ?_ ?_); decide +kernel) | ((with_reducible refine awOps_one ?_ ?_); decide +kernel) | (with_reducible refine awOps_feed ?_) | ((with_reducible refine awOps_g ?_); refine awOps_guard rfl ?_) | ((with_reducible refine awT_one ?_ ?_); decide +kernel) | ((with_reducible refine awT_call ?_ ?_); decide +kernel) | ((with_reducible refine awT_g ?_); refine awT_guard rfl ?_) | ((with_reducible refine awU_one ?_ ?_); decide +kernel) | ((with_reducible refine awU_call ?_ ?_); decide +kernel) | ((with_reducible refine awU_g ?_); refine awU_guard rfl ?_) | (with_reducible refine AWp.condH ?_)); intro K Q' hK hQ; simp only [hd, hw, hr, hg, hget, hb0, Option.bind_some, bne, go_sem, Nat.reduceAdd, Nat.reduceSub, Nat.reduceMul, Nat.reduceDiv, Nat.reduceMod, Nat.reduceLT, Nat.reduceLeDiff, Nat.reduceEqDiff, Nat.reduceBEq, Nat.reduceBNe, reduceCtorEq, Int.reduceLE, Int.reduceLT, Int.reduceNeg, Int.reduceToNat, Int.reduceAdd, Int.reduceSub, Int.reduceMul, Int.reduceBEq, Int.reduceBNe, Int.reduceEq]; subst hK hQ)
    | ((with_reducible refine AWp.drawT Try.follows ?_ ?_); decide +kernel) | ((with_reducible refine AWp.drawU Try.follows ?_ ?_); decide +kernel)
    | with_reducible (first | refine awOps_end ?_ | refine awT_end ?_ | refine awU_end ?_ | refine nThen ?_ | refine putKn ?_ | refine nSuf ?_ | refine rThen ?_ | refine eThen ?_ | refine nBlock ?_ | refine eBlock ?_ | refine fBlock (by decide) ?_ | refine rBlock ?_ | refine nScope ?_ | refine eScope ?_ | refine rScope ?_ | refine AWp.seq ?_ | refine AWp.block ?_ | refine AWp.scope ?_ | refine AWp.text ?_ | refine AWp.skip ?_ | refine AWp.exit ?_ | refine AWp.ret ?_ | refine AWp.label ?_ | refine brK_T (by assumption) ?_ | refine brK_F (by assumption) ?_ | refine brK_mk (fun hb => ?_) (fun hb => ?_))
    | ((with_reducible refine And.intro ?_ ?_); focus (first | assumption | omega | (simp only [go_sem, reduceCtorEq]; done)))
    | ((with_reducible (first | refine rBodyZ ?_ | refine nBodyZ ?_ | refine rBodyQ ?_ | refine nBodyQ ?_)); simp only [hd, hw, hr, hg, hget, hb0, Option.bind_some, bne, go_sem, Nat.reduceAdd, Nat.reduceSub, Nat.reduceMul, Nat.reduceDiv, Nat.reduceMod, Nat.reduceLT, Nat.reduceLeDiff, Nat.reduceEqDiff, Nat.reduceBEq, Nat.reduceBNe, reduceCtorEq, Int.reduceLE, Int.reduceLT, Int.reduceNeg, Int.reduceToNat, Int.reduceAdd, Int.reduceSub, Int.reduceMul, Int.reduceBEq, Int.reduceBNe, Int.reduceEq]))
      exact ⟨(k + 1, v), ⟨by simp only; omega, by simp only; rw [hsn]; exact hv⟩, by simp only; omega, by simp only [hw, hsn, go_sem, Nat.reduceAdd, Nat.reduceSub, Nat.reduceMul, Nat.reduceDiv, Nat.reduceMod, Nat.reduceLT, Nat.reduceLeDiff, Nat.reduceEqDiff, Nat.reduceBEq, Nat.reduceBNe, reduceCtorEq, Int.reduceLE, Int.reduceLT, Int.reduceNeg, Int.reduceToNat, Int.reduceAdd, Int.reduceSub, Int.reduceMul, Int.reduceBEq, Int.reduceBNe, Int.reduceEq], by show WeakS _ (vS B v (keepOf l (S.take (k + 1))).length _); rw [hsn, hvs]; exact WeakS.refl _⟩
    · have hb0 : (x == []) = false := by simp [hx0]
      rw [if_neg hx0] at hsn
      rw [hvs]
      repeat' (first
    | ((first | ((with_reducible refine awOps_move ?_ ?_); decide +kernel) | ((with_reducible refine awOps_load ?_ ?_); decide +kernel) | ((with_reducible refine awOps_one ?_ ?_); decide +kernel) | (with_reducible refine awOps_feed ?_) | ((with_reducible refine awOps_g ?_); refine awOps_guard rfl ?_) | ((with_reducible refine awT_one ?_ ?_); decide +kernel) | ((with_reducible refine awT_call ?_ ?_); decide +kernel) | ((with_reducible refine awT_g ?_); refine awT_guard rfl ?_) | ((with_reducible refine awU_one ?_ ?_); decide +kernel) | ((with_reducible refine awU_call ?_ ?_); decide +kernel) | ((with_reducible refine awU_g ?_); refine awU_guard rfl ?_) | (with_reducible refine AWp.condH ?_)); intro K Q' hK hQ; simp only [hd, hw, hr, hg, hget, hb0, Option.bind_some, bne, go_sem, Nat.reduceAdd, Nat.reduceSub, Nat.reduceMul, Nat.reduceDiv, Nat.reduceMod, Nat.reduceLT, Nat.reduceLeDiff, Nat.reduceEqDiff, Nat.reduceBEq, Nat.reduceBNe, reduceCtorEq, Int.reduceLE, Int.reduceLT, Int.reduceNeg, Int.reduceToNat, Int.reduceAdd, Int.reduceSub, Int.reduceMul, Int.reduceBEq, Int.reduceBNe, Int.reduceEq]; subst hK hQ)
    | ((with_reducible refine AWp.drawT Try.follows ?_ ?_); decide +kernel) | ((with_reducible refine AWp.drawU Try.follows ?_ ?_); decide +kernel)
    | with_reducible (first | refine awOps_end ?_ | refine awT_end ?_ | refine awU_end ?_ | refine nThen ?_ | refine putKn ?_ | refine nSuf ?_ | refine rThen ?_ | refine eThen ?_ | refine nBlock ?_ | refine eBlock ?_ | refine fBlock (by decide) ?_ | refine rBlock ?_ | refine nScope ?_ | refine eScope ?_ | refine rScope ?_ | refine AWp.seq ?_ | refine AWp.block ?_ | refine AWp.scope ?_ | refine AWp.text ?_ | refine AWp.skip ?_ | refine AWp.exit ?_ | refine AWp.ret ?_ | refine AWp.label ?_ | refine brK_T (by assumption) ?_ | refine brK_F (by assumption) ?_ | refine brK_mk (fun hb => ?_) (fun hb => ?_))
    | ((with_reducible refine And.intro ?_ ?_); focus (first | assumption | omega | (simp only [go_sem, reduceCtorEq]; done)))
    | ((with_reducible (first | refine rBodyZ ?_ | refine nBodyZ ?_ | refine rBodyQ ?_ | refine nBodyQ ?_)); simp only [hd, hw, hr, hg, hget, hb0, Option.bind_some, bne, go_sem, Nat.reduceAdd, Nat.reduceSub, Nat.reduceMul, Nat.reduceDiv, Nat.reduceMod, Nat.reduceLT, Nat.reduceLeDiff, Nat.reduceEqDiff, Nat.reduceBEq, Nat.reduceBNe, reduceCtorEq, Int.reduceLE, Int.reduceLT, Int.reduceNeg, Int.reduceToNat, Int.reduceAdd, Int.reduceSub, Int.reduceMul, Int.reduceBEq, Int.reduceBNe, Int.reduceEq]))
      refine appC.r ?_
      simp only [aappendM, asrc, go_sem, Nat.reduceAdd, Nat.reduceSub, Nat.reduceMul, Nat.reduceDiv, Nat.reduceMod, Nat.reduceLT, Nat.reduceLeDiff, Nat.reduceEqDiff, Nat.reduceBEq, Nat.reduceBNe, reduceCtorEq, Int.reduceLE, Int.reduceLT, Int.reduceNeg, Int.reduceToNat, Int.reduceAdd, Int.reduceSub, Int.reduceMul, Int.reduceBEq, Int.reduceBNe, Int.reduceEq]
      rw [← hvs]
      refine appM_vV hv (by omega) (by simp) (by rfl) (by omega) (by omega) (by rfl) fun v' hv' => ?_
      have hln : (keepOf l (S.take (k + 1))).length = (keepOf l (S.take k)).length + 1 := by rw [hsn]; simp
      have hen : encRs (keepOf l (S.take (k + 1))) = encRs (keepOf l (S.take k)) ++ [.s S[k], .s x] := by rw [hsn, encRs_app]; rfl
      rw [← hln, ← hen] at hv' ⊢
      repeat' (first
    | ((first | ((with_reducible refine awOps_move ?_ ?_); decide +kernel) | ((with_reducible refine awOps_load ?_ ?_); decide +kernel) | ((with_reducible refine awOps_one ?_ ?_); decide +kernel) | (with_reducible refine awOps_feed ?_) | ((with_reducible refine awOps_g ?_); refine awOps_guard rfl ?_) | ((with_reducible refine awT_one ?_ ?_); decide +kernel) | ((with_reducible refine awT_call ?_ ?_); decide +kernel) | ((with_reducible refine awT_g ?_); refine awT_guard rfl ?_) | ((with_reducible refine awU_one ?_ ?_); decide +kernel) | ((with_reducible refine awU_call ?_ ?_); decide +kernel) | ((with_reducible refine awU_g ?_); refine awU_guard rfl ?_) | (with_reducible refine AWp.condH ?_)); intro K Q' hK hQ; simp only [hw, vV_pn, go_sem, Nat.reduceAdd, Nat.reduceSub, Nat.reduceMul, Nat.reduceDiv, Nat.reduceMod, Nat.reduceLT, Nat.reduceLeDiff, Nat.reduceEqDiff, Nat.reduceBEq, Nat.reduceBNe, reduceCtorEq, Int.reduceLE, Int.reduceLT, Int.reduceNeg, Int.reduceToNat, Int.reduceAdd, Int.reduceSub, Int.reduceMul, Int.reduceBEq, Int.reduceBNe, Int.reduceEq]; subst hK hQ)
    | ((with_reducible refine AWp.drawT Try.follows ?_ ?_); decide +kernel) | ((with_reducible refine AWp.drawU Try.follows ?_ ?_); decide +kernel)
    | with_reducible (first | refine awOps_end ?_ | refine awT_end ?_ | refine awU_end ?_ | refine nThen ?_ | refine putKn ?_ | refine nSuf ?_ | refine rThen ?_ | refine eThen ?_ | refine nBlock ?_ | refine eBlock ?_ | refine fBlock (by decide) ?_ | refine rBlock ?_ | refine nScope ?_ | refine eScope ?_ | refine rScope ?_ | refine AWp.seq ?_ | refine AWp.block ?_ | refine AWp.scope ?_ | refine AWp.text ?_ | refine AWp.skip ?_ | refine AWp.exit ?_ | refine AWp.ret ?_ | refine AWp.label ?_ | refine brK_T (by assumption) ?_ | refine brK_F (by assumption) ?_ | refine brK_mk (fun hb => ?_) (fun hb => ?_))
    | ((with_reducible refine And.intro ?_ ?_); focus (first | assumption | omega | (simp only [go_sem, reduceCtorEq]; done)))
    | ((with_reducible (first | refine rBodyZ ?_ | refine nBodyZ ?_ | refine rBodyQ ?_ | refine nBodyQ ?_)); simp only [hw, vV_pn, go_sem, Nat.reduceAdd, Nat.reduceSub, Nat.reduceMul, Nat.reduceDiv, Nat.reduceMod, Nat.reduceLT, Nat.reduceLeDiff, Nat.reduceEqDiff, Nat.reduceBEq, Nat.reduceBNe, reduceCtorEq, Int.reduceLE, Int.reduceLT, Int.reduceNeg, Int.reduceToNat, Int.reduceAdd, Int.reduceSub, Int.reduceMul, Int.reduceBEq, Int.reduceBNe, Int.reduceEq]))
      exact ⟨(k + 1, v'), ⟨by simp only; omega, hv'⟩, by simp only; omega, by simp only [hw, go_sem, Nat.reduceAdd, Nat.reduceSub, Nat.reduceMul, Nat.reduceDiv, Nat.reduceMod, Nat.reduceLT, Nat.reduceLeDiff, Nat.reduceEqDiff, Nat.reduceBEq, Nat.reduceBNe, reduceCtorEq, Int.reduceLE, Int.reduceLT, Int.reduceNeg, Int.reduceToNat, Int.reduceAdd, Int.reduceSub, Int.reduceMul, Int.reduceBEq, Int.reduceBNe, Int.reduceEq], WeakS.refl _⟩
  · have hd : decide ((k : Int) < (S.length : Int)) = false := by simp; omega
    have hkl : k = S.length := by omega
    subst hkl
    rw [List.take_length] at *
    have hsh1 : vV B v 2 (keepOf l S).length = vV σ ⟨AObj.map (encM (mapOf l)) :: (js ++ v.js), v.cap, v.junk⟩ 2 (keepOf l S).length := by
      rw [hB]; cases (keepOf l S).length <;> simp [vV]; omega
    have hsh2 : vS B v (keepOf l S).length (encRs (keepOf l S)) = vS σ ⟨AObj.map (encM (mapOf l)) :: (js ++ v.js), v.cap, v.junk⟩ (keepOf l S).length (encRs (keepOf l S)) := by
      rw [hB]; cases (keepOf l S).length <;> simp [vS]
    have hv2 : VOK ⟨AObj.map (encM (mapOf l)) :: (js ++ v.js), v.cap, v.junk⟩ 2 (keepOf l S).length (encRs (keepOf l S)) := ⟨hv.len, hv.all, hv.cap, hv.pl⟩
    rw [hsh1, hsh2]
    have hf := frz_vV (σ := σ) hv2
    have htk := vS_take (σ := σ) (v := ⟨AObj.map (encM (mapOf l)) :: (js ++ v.js), v.cap, v.junk⟩) (n := (keepOf l S).length) (cs := encRs (keepOf l S))
    generalize hV : (⟨AObj.map (encM (mapOf l)) :: (js ++ v.js), v.cap, v.junk⟩ : VecG) = V at *
    repeat' (first
    | ((first | ((with_reducible refine awOps_move ?_ ?_); decide +kernel) | ((with_reducible refine awOps_load ?_ ?_); decide +kernel) | ((with_reducible refine awOps_one ?_ ?_); decide +kernel) | (with_reducible refine awOps_feed ?_) | ((with_reducible refine awOps_g ?_); refine awOps_guard rfl ?_) | ((with_reducible refine awT_one ?_ ?_); decide +kernel) | ((with_reducible refine awT_call ?_ ?_); decide +kernel) | ((with_reducible refine awT_g ?_); refine awT_guard rfl ?_) | ((with_reducible refine awU_one ?_ ?_); decide +kernel) | ((with_reducible refine awU_call ?_ ?_); decide +kernel) | ((with_reducible refine awU_g ?_); refine awU_guard rfl ?_) | (with_reducible refine AWp.condH ?_)); intro K Q' hK hQ; simp only [hd, go_sem, Nat.reduceAdd, Nat.reduceSub, Nat.reduceMul, Nat.reduceDiv, Nat.reduceMod, Nat.reduceLT, Nat.reduceLeDiff, Nat.reduceEqDiff, Nat.reduceBEq, Nat.reduceBNe, reduceCtorEq, Int.reduceLE, Int.reduceLT, Int.reduceNeg, Int.reduceToNat, Int.reduceAdd, Int.reduceSub, Int.reduceMul, Int.reduceBEq, Int.reduceBNe, Int.reduceEq]; subst hK hQ)
    | ((with_reducible refine AWp.drawT Try.follows ?_ ?_); decide +kernel) | ((with_reducible refine AWp.drawU Try.follows ?_ ?_); decide +kernel)
    | with_reducible (first | refine awOps_end ?_ | refine awT_end ?_ | refine awU_end ?_ | refine nThen ?_ | refine putKn ?_ | refine nSuf ?_ | refine rThen ?_ | refine eThen ?_ | refine nBlock ?_ | refine eBlock ?_ | refine fBlock (by decide) ?_ | refine rBlock ?_ | refine nScope ?_ | refine eScope ?_ | refine rScope ?_ | refine AWp.seq ?_ | refine AWp.block ?_ | refine AWp.scope ?_ | refine AWp.text ?_ | refine AWp.skip ?_ | refine AWp.exit ?_ | refine AWp.ret ?_ | refine AWp.label ?_ | refine brK_T (by assumption) ?_ | refine brK_F (by assumption) ?_ | refine brK_mk (fun hb => ?_) (fun hb => ?_))
    | ((with_reducible refine And.intro ?_ ?_); focus (first | assumption | omega | (simp only [go_sem, reduceCtorEq]; done)))
    | ((with_reducible (first | refine rBodyZ ?_ | refine nBodyZ ?_ | refine rBodyQ ?_ | refine nBodyQ ?_)); simp only [hd, go_sem, Nat.reduceAdd, Nat.reduceSub, Nat.reduceMul, Nat.reduceDiv, Nat.reduceMod, Nat.reduceLT, Nat.reduceLeDiff, Nat.reduceEqDiff, Nat.reduceBEq, Nat.reduceBNe, reduceCtorEq, Int.reduceLE, Int.reduceLT, Int.reduceNeg, Int.reduceToNat, Int.reduceAdd, Int.reduceSub, Int.reduceMul, Int.reduceBEq, Int.reduceBNe, Int.reduceEq]))
    refine (show clean σ.length (frz σ.length (vS σ V (keepOf l S).length (encRs (keepOf l S))) (vV σ V 2 (keepOf l S).length)).nt = true ∧ ∃ L, IsMerge l L ∧ ARes.ret (frz σ.length (vS σ V (keepOf l S).length (encRs (keepOf l S))) (vV σ V 2 (keepOf l S).length)).nt = ARes.ret (vN L.length (encRs L)) from ?_)
    rw [hf]
    have hnt : (vN (keepOf l S).length (encRs (keepOf l S))).nt = vN (keepOf l S).length (encRs (keepOf l S)) := by cases (keepOf l S).length <;> rfl
    rw [hnt]
    refine ⟨?_, keepOf l S, hM, rfl⟩
    cases (keepOf l S).length with
    | zero => rfl
    | succ n => exact cleanRs _ _
end Go.Proofs.Ytoofpdmdgofdcaa.L

namespace Go.Proofs.Ytoofpdmdgofdcaa.L
open Go Go.RowKit Go.Proofs.Ytoofpdmdgofdcaa.E
set_option linter.unusedVariables false
set_option linter.unusedSimpArgs false
set_option maxRecDepth 10000
set_option maxHeartbeats 1000000
/-- How many records are ahead of a key. -/
def ahead (k : List UInt8) : List PRec → Nat
  | [] => 0
  | a :: l => if a.1 < k then ahead k l + 1 else 0
def putL (l : List PRec) (r : PRec) : List PRec :=
  l.take (ahead r.1 l) ++ [r] ++ (match l.drop (ahead r.1 l) with | [] => [] | a :: t => if a.1 = r.1 then t else a :: t)
theorem ahead_le (k : List UInt8) : ∀ l, ahead k l ≤ l.length
  | [] => Nat.le_refl _
  | a :: l => by
    simp only [ahead]
    split
    · have := ahead_le k l; simp; omega
    · simp
theorem ahead_lt (k : List UInt8) : ∀ (l : List PRec) (j : Nat), j < ahead k l → ∀ r, l[j]? = some r → r.1 < k
  | [], j, h, r, hr => by simp [ahead] at h
  | a :: l, j, h, r, hr => by
    simp only [ahead] at h
    split at h
    · rename_i ha
      cases j with
      | zero => simp at hr; subst hr; exact ha
      | succ j => exact ahead_lt k l j (by omega) r (by simpa using hr)
    · omega
theorem ahead_at (k : List UInt8) : ∀ (l : List PRec) (r : PRec), l[ahead k l]? = some r → ¬ r.1 < k
  | [], r, hr => by simp [ahead] at hr
  | a :: l, r, hr => by
    simp only [ahead] at hr
    split at hr
    · exact ahead_at k l r (by simpa using hr)
    · rename_i ha
      simp at hr
      subst hr
      exact ha
theorem put (l : List PRec) (r : PRec) (hl : l.length ≤ 274877906944) (σ : AState) :
    ACalls Try.prog G0 40 [.sl .no l.length (encRs l), .agg (encR r)] σ (retIs (.sl .no (putL l r).length (encRs (putL l r))) σ) := by
  refine ACalls.bodyZ G0_pl Try.func40 rfl (by rfl) (by decide) ?_; simp only [Try.ntmps40, List.replicate, go_sem, Nat.reduceAdd, Nat.reduceSub]
  repeat' (first
    | ((first | ((with_reducible refine awOps_move ?_ ?_); decide +kernel) | ((with_reducible refine awOps_load ?_ ?_); decide +kernel) | ((with_reducible refine awOps_one ?_ ?_); decide +kernel) | (with_reducible refine awOps_feed ?_) | ((with_reducible refine awOps_g ?_); refine awOps_guard rfl ?_) | ((with_reducible refine awT_one ?_ ?_); decide +kernel) | ((with_reducible refine awT_call ?_ ?_); decide +kernel) | ((with_reducible refine awT_g ?_); refine awT_guard rfl ?_) | ((with_reducible refine awU_one ?_ ?_); decide +kernel) | ((with_reducible refine awU_call ?_ ?_); decide +kernel) | ((with_reducible refine awU_g ?_); refine awU_guard rfl ?_) | (with_reducible refine AWp.condH ?_)); intro K Q' hK hQ; simp only [cnil, encR, go_sem, Nat.reduceAdd, Nat.reduceSub, Nat.reduceMul, Nat.reduceDiv, Nat.reduceMod, Nat.reduceLT, Nat.reduceLeDiff, Nat.reduceEqDiff, Nat.reduceBEq, Nat.reduceBNe, reduceCtorEq, Int.reduceLE, Int.reduceLT, Int.reduceNeg, Int.reduceToNat, Int.reduceAdd, Int.reduceSub, Int.reduceMul, Int.reduceBEq, Int.reduceBNe, Int.reduceEq]; subst hK hQ)
    | ((with_reducible refine AWp.drawT Try.follows ?_ ?_); decide +kernel) | ((with_reducible refine AWp.drawU Try.follows ?_ ?_); decide +kernel)
    | with_reducible (first | refine awOps_end ?_ | refine awT_end ?_ | refine awU_end ?_ | refine nThen ?_ | refine putKn ?_ | refine nSuf ?_ | refine rThen ?_ | refine eThen ?_ | refine nBlock ?_ | refine eBlock ?_ | refine fBlock (by decide) ?_ | refine rBlock ?_ | refine nScope ?_ | refine eScope ?_ | refine rScope ?_ | refine AWp.seq ?_ | refine AWp.block ?_ | refine AWp.scope ?_ | refine AWp.text ?_ | refine AWp.skip ?_ | refine AWp.exit ?_ | refine AWp.ret ?_ | refine AWp.label ?_ | refine brK_T (by assumption) ?_ | refine brK_F (by assumption) ?_ | refine brK_mk (fun hb => ?_) (fun hb => ?_))
    | ((with_reducible refine And.intro ?_ ?_); focus (first | assumption | omega | (simp only [go_sem, reduceCtorEq]; done)))
    | ((with_reducible (first | refine rBodyZ ?_ | refine nBodyZ ?_ | refine rBodyQ ?_ | refine nBodyQ ?_)); simp only [cnil, encR, go_sem, Nat.reduceAdd, Nat.reduceSub, Nat.reduceMul, Nat.reduceDiv, Nat.reduceMod, Nat.reduceLT, Nat.reduceLeDiff, Nat.reduceEqDiff, Nat.reduceBEq, Nat.reduceBNe, reduceCtorEq, Int.reduceLE, Int.reduceLT, Int.reduceNeg, Int.reduceToNat, Int.reduceAdd, Int.reduceSub, Int.reduceMul, Int.reduceBEq, Int.reduceBNe, Int.reduceEq]))
  refine AWp.loop (α := Nat) (fun k => k ≤ ahead r.1 l) (fun k => ahead r.1 l - k) (fun k => mkE 54 [(0, .sl .no l.length (encRs l)), (3, .pm σ.length 0), (5, .i .i64 k)]) (fun _ => σ ++ [.cells (encR r)]) 0 (Nat.zero_le _) ?_ ?_ ?_
  · simp only [Int.natCast_zero, go_sem, Nat.reduceAdd, Nat.reduceSub, Nat.reduceMul, Nat.reduceDiv, Nat.reduceMod, Nat.reduceLT, Nat.reduceLeDiff, Nat.reduceEqDiff, Nat.reduceBEq, Nat.reduceBNe, reduceCtorEq, Int.reduceLE, Int.reduceLT, Int.reduceNeg, Int.reduceToNat, Int.reduceAdd, Int.reduceSub, Int.reduceMul, Int.reduceBEq, Int.reduceBNe, Int.reduceEq]
  · exact WeakS.refl _
  intro k hk
  have hal := ahead_le r.1 l
  have hke : k < ahead r.1 l ∨ k = ahead r.1 l := by omega
  rcases hke with hlt | rfl
  · have hd : decide ((k : Int) < (l.length : Int)) = true := by simp; omega
    have hw := wrapS (k := k) (by omega)
    have hkl : k < l.length := by omega
    obtain ⟨h1, h2⟩ := encRs_get l k l[k] (List.getElem?_eq_getElem hkl)
    have hr : (0 : Int) ≤ (k : Int) ∧ (k : Int) < (l.length : Int) := by omega
    have hlk := ahead_lt r.1 l k hlt l[k] (List.getElem?_eq_getElem hkl)
    have hdl : Op.bytesLess l[k].1 r.1 = true := by rw [Go.Proofs.bytesLess_eq]; simpa using hlk
    repeat' (first
    | ((first | ((with_reducible refine awOps_move ?_ ?_); decide +kernel) | ((with_reducible refine awOps_load ?_ ?_); decide +kernel) | ((with_reducible refine awOps_one ?_ ?_); decide +kernel) | (with_reducible refine awOps_feed ?_) | ((with_reducible refine awOps_g ?_); refine awOps_guard rfl ?_) | ((with_reducible refine awT_one ?_ ?_); decide +kernel) | ((with_reducible refine awT_call ?_ ?_); decide +kernel) | ((with_reducible refine awT_g ?_); refine awT_guard rfl ?_) | ((with_reducible refine awU_one ?_ ?_); decide +kernel) | ((with_reducible refine awU_call ?_ ?_); decide +kernel) | ((with_reducible refine awU_g ?_); refine awU_guard rfl ?_) | (with_reducible refine AWp.condH ?_)); intro K Q' hK hQ; simp only [hd, hw, h1, h2, hr, hdl, encR, go_sem, Nat.reduceAdd, Nat.reduceSub, Nat.reduceMul, Nat.reduceDiv, Nat.reduceMod, Nat.reduceLT, Nat.reduceLeDiff, Nat.reduceEqDiff, Nat.reduceBEq, Nat.reduceBNe, reduceCtorEq, Int.reduceLE, Int.reduceLT, Int.reduceNeg, Int.reduceToNat, Int.reduceAdd, Int.reduceSub, Int.reduceMul, Int.reduceBEq, Int.reduceBNe, Int.reduceEq]; subst hK hQ)
    | ((with_reducible refine AWp.drawT Try.follows ?_ ?_); decide +kernel) | ((with_reducible refine AWp.drawU Try.follows ?_ ?_); decide +kernel)
    | with_reducible (first | refine awOps_end ?_ | refine awT_end ?_ | refine awU_end ?_ | refine nThen ?_ | refine putKn ?_ | refine nSuf ?_ | refine rThen ?_ | refine eThen ?_ | refine nBlock ?_ | refine eBlock ?_ | refine fBlock (by decide) ?_ | refine rBlock ?_ | refine nScope ?_ | refine eScope ?_ | refine rScope ?_ | refine AWp.seq ?_ | refine AWp.block ?_ | refine AWp.scope ?_ | refine AWp.text ?_ | refine AWp.skip ?_ | refine AWp.exit ?_ | refine AWp.ret ?_ | refine AWp.label ?_ | refine brK_T (by assumption) ?_ | refine brK_F (by assumption) ?_ | refine brK_mk (fun hb => ?_) (fun hb => ?_))
    | ((with_reducible refine And.intro ?_ ?_); focus (first | assumption | omega | (simp only [go_sem, reduceCtorEq]; done)))
    | ((with_reducible (first | refine rBodyZ ?_ | refine nBodyZ ?_ | refine rBodyQ ?_ | refine nBodyQ ?_)); simp only [hd, hw, h1, h2, hr, hdl, encR, go_sem, Nat.reduceAdd, Nat.reduceSub, Nat.reduceMul, Nat.reduceDiv, Nat.reduceMod, Nat.reduceLT, Nat.reduceLeDiff, Nat.reduceEqDiff, Nat.reduceBEq, Nat.reduceBNe, reduceCtorEq, Int.reduceLE, Int.reduceLT, Int.reduceNeg, Int.reduceToNat, Int.reduceAdd, Int.reduceSub, Int.reduceMul, Int.reduceBEq, Int.reduceBNe, Int.reduceEq]))
    exact ⟨k + 1, by omega, by simp only; omega, by simp only [hw, go_sem, Nat.reduceAdd, Nat.reduceSub, Nat.reduceMul, Nat.reduceDiv, Nat.reduceMod, Nat.reduceLT, Nat.reduceLeDiff, Nat.reduceEqDiff, Nat.reduceBEq, Nat.reduceBNe, reduceCtorEq, Int.reduceLE, Int.reduceLT, Int.reduceNeg, Int.reduceToNat, Int.reduceAdd, Int.reduceSub, Int.reduceMul, Int.reduceBEq, Int.reduceBNe, Int.reduceEq], WeakS.refl _⟩
  · generalize hk0 : ahead r.1 l = k at *
    have hte := encRs_take l k
    have hle : decide ((0 : Int) ≤ (k : Int)) = true := by simp
    have hc1 : (encRs (l.take k)).length = k * 2 := by rw [encRs_len, List.length_take]; omega
    by_cases hkl : k < l.length
    · have hd : decide ((k : Int) < (l.length : Int)) = true := by simp; omega
      have hw := wrapS (k := k) (by omega)
      obtain ⟨h1, h2⟩ := encRs_get l k l[k] (List.getElem?_eq_getElem hkl)
      have hr : (0 : Int) ≤ (k : Int) ∧ (k : Int) < (l.length : Int) := by omega
      have hla := ahead_at r.1 l l[k] (by rw [hk0]; exact List.getElem?_eq_getElem hkl)
      have hdl : Op.bytesLess l[k].1 r.1 = false := by rw [Go.Proofs.bytesLess_eq]; simpa using hla
      repeat' (first
    | ((first | ((with_reducible refine awOps_move ?_ ?_); decide +kernel) | ((with_reducible refine awOps_load ?_ ?_); decide +kernel) | ((with_reducible refine awOps_one ?_ ?_); decide +kernel) | (with_reducible refine awOps_feed ?_) | ((with_reducible refine awOps_g ?_); refine awOps_guard rfl ?_) | ((with_reducible refine awT_one ?_ ?_); decide +kernel) | ((with_reducible refine awT_call ?_ ?_); decide +kernel) | ((with_reducible refine awT_g ?_); refine awT_guard rfl ?_) | ((with_reducible refine awU_one ?_ ?_); decide +kernel) | ((with_reducible refine awU_call ?_ ?_); decide +kernel) | ((with_reducible refine awU_g ?_); refine awU_guard rfl ?_) | (with_reducible refine AWp.condH ?_)); intro K Q' hK hQ; simp only [hd, hw, h1, h2, hr, hdl, encR, go_sem, Nat.reduceAdd, Nat.reduceSub, Nat.reduceMul, Nat.reduceDiv, Nat.reduceMod, Nat.reduceLT, Nat.reduceLeDiff, Nat.reduceEqDiff, Nat.reduceBEq, Nat.reduceBNe, reduceCtorEq, Int.reduceLE, Int.reduceLT, Int.reduceNeg, Int.reduceToNat, Int.reduceAdd, Int.reduceSub, Int.reduceMul, Int.reduceBEq, Int.reduceBNe, Int.reduceEq]; subst hK hQ)
    | ((with_reducible refine AWp.drawT Try.follows ?_ ?_); decide +kernel) | ((with_reducible refine AWp.drawU Try.follows ?_ ?_); decide +kernel)
    | with_reducible (first | refine awOps_end ?_ | refine awT_end ?_ | refine awU_end ?_ | refine nThen ?_ | refine putKn ?_ | refine nSuf ?_ | refine rThen ?_ | refine eThen ?_ | refine nBlock ?_ | refine eBlock ?_ | refine fBlock (by decide) ?_ | refine rBlock ?_ | refine nScope ?_ | refine eScope ?_ | refine rScope ?_ | refine AWp.seq ?_ | refine AWp.block ?_ | refine AWp.scope ?_ | refine AWp.text ?_ | refine AWp.skip ?_ | refine AWp.exit ?_ | refine AWp.ret ?_ | refine AWp.label ?_ | refine brK_T (by assumption) ?_ | refine brK_F (by assumption) ?_ | refine brK_mk (fun hb => ?_) (fun hb => ?_))
    | ((with_reducible refine And.intro ?_ ?_); focus (first | assumption | omega | (simp only [go_sem, reduceCtorEq]; done)))
    | ((with_reducible (first | refine rBodyZ ?_ | refine nBodyZ ?_ | refine rBodyQ ?_ | refine nBodyQ ?_)); simp only [hd, hw, h1, h2, hr, hdl, encR, go_sem, Nat.reduceAdd, Nat.reduceSub, Nat.reduceMul, Nat.reduceDiv, Nat.reduceMod, Nat.reduceLT, Nat.reduceLeDiff, Nat.reduceEqDiff, Nat.reduceBEq, Nat.reduceBNe, reduceCtorEq, Int.reduceLE, Int.reduceLT, Int.reduceNeg, Int.reduceToNat, Int.reduceAdd, Int.reduceSub, Int.reduceMul, Int.reduceBEq, Int.reduceBNe, Int.reduceEq]))
      refine appC.l ?_
      simp only [aappend, asrc, appK, hte, Nat.sub_zero, List.drop_zero, encRs_pl, encRs_one, hc1, go_sem, Nat.reduceAdd, Nat.reduceSub, Nat.reduceMul, Nat.reduceDiv, Nat.reduceMod, Nat.reduceLT, Nat.reduceLeDiff, Nat.reduceEqDiff, Nat.reduceBEq, Nat.reduceBNe, reduceCtorEq, Int.reduceLE, Int.reduceLT, Int.reduceNeg, Int.reduceToNat, Int.reduceAdd, Int.reduceSub, Int.reduceMul, Int.reduceBEq, Int.reduceBNe, Int.reduceEq]
      refine ⟨⟨rfl, by omega, by omega⟩, ?_⟩
      repeat' (first
    | ((first | ((with_reducible refine awOps_move ?_ ?_); decide +kernel) | ((with_reducible refine awOps_load ?_ ?_); decide +kernel) | ((with_reducible refine awOps_one ?_ ?_); decide +kernel) | (with_reducible refine awOps_feed ?_) | ((with_reducible refine awOps_g ?_); refine awOps_guard rfl ?_) | ((with_reducible refine awT_one ?_ ?_); decide +kernel) | ((with_reducible refine awT_call ?_ ?_); decide +kernel) | ((with_reducible refine awT_g ?_); refine awT_guard rfl ?_) | ((with_reducible refine awU_one ?_ ?_); decide +kernel) | ((with_reducible refine awU_call ?_ ?_); decide +kernel) | ((with_reducible refine awU_g ?_); refine awU_guard rfl ?_) | (with_reducible refine AWp.condH ?_)); intro K Q' hK hQ; simp only [encR, go_sem, Nat.reduceAdd, Nat.reduceSub, Nat.reduceMul, Nat.reduceDiv, Nat.reduceMod, Nat.reduceLT, Nat.reduceLeDiff, Nat.reduceEqDiff, Nat.reduceBEq, Nat.reduceBNe, reduceCtorEq, Int.reduceLE, Int.reduceLT, Int.reduceNeg, Int.reduceToNat, Int.reduceAdd, Int.reduceSub, Int.reduceMul, Int.reduceBEq, Int.reduceBNe, Int.reduceEq]; subst hK hQ)
    | ((with_reducible refine AWp.drawT Try.follows ?_ ?_); decide +kernel) | ((with_reducible refine AWp.drawU Try.follows ?_ ?_); decide +kernel)
    | with_reducible (first | refine awOps_end ?_ | refine awT_end ?_ | refine awU_end ?_ | refine nThen ?_ | refine putKn ?_ | refine nSuf ?_ | refine rThen ?_ | refine eThen ?_ | refine nBlock ?_ | refine eBlock ?_ | refine fBlock (by decide) ?_ | refine rBlock ?_ | refine nScope ?_ | refine eScope ?_ | refine rScope ?_ | refine AWp.seq ?_ | refine AWp.block ?_ | refine AWp.scope ?_ | refine AWp.text ?_ | refine AWp.skip ?_ | refine AWp.exit ?_ | refine AWp.ret ?_ | refine AWp.label ?_ | refine brK_T (by assumption) ?_ | refine brK_F (by assumption) ?_ | refine brK_mk (fun hb => ?_) (fun hb => ?_))
    | ((with_reducible refine And.intro ?_ ?_); focus (first | assumption | omega | (simp only [go_sem, reduceCtorEq]; done)))
    | ((with_reducible (first | refine rBodyZ ?_ | refine nBodyZ ?_ | refine rBodyQ ?_ | refine nBodyQ ?_)); simp only [encR, go_sem, Nat.reduceAdd, Nat.reduceSub, Nat.reduceMul, Nat.reduceDiv, Nat.reduceMod, Nat.reduceLT, Nat.reduceLeDiff, Nat.reduceEqDiff, Nat.reduceBEq, Nat.reduceBNe, reduceCtorEq, Int.reduceLE, Int.reduceLT, Int.reduceNeg, Int.reduceToNat, Int.reduceAdd, Int.reduceSub, Int.reduceMul, Int.reduceBEq, Int.reduceBNe, Int.reduceEq]))
      refine appC.l ?_
      simp only [aappend, asrc, appK, hc1, go_sem, Nat.reduceAdd, Nat.reduceSub, Nat.reduceMul, Nat.reduceDiv, Nat.reduceMod, Nat.reduceLT, Nat.reduceLeDiff, Nat.reduceEqDiff, Nat.reduceBEq, Nat.reduceBNe, reduceCtorEq, Int.reduceLE, Int.reduceLT, Int.reduceNeg, Int.reduceToNat, Int.reduceAdd, Int.reduceSub, Int.reduceMul, Int.reduceBEq, Int.reduceBNe, Int.reduceEq]
      refine ⟨by omega, ?_⟩
      have hdr : ∀ i, i ≤ l.length → List.take ((l.length - i) * 2) (List.drop (i * 2) (encRs l)) = encRs (l.drop i) := fun i hi => by
        rw [encRs_drop, encRs_take, List.take_of_length_le (by simp)]
      have hdl2 : l.drop k = l[k] :: l.drop (k + 1) := (List.drop_eq_getElem_cons hkl)
      have hc2 : ∀ i, (encRs (l.drop i)).length = (l.length - i) * 2 := fun i => by rw [encRs_len, List.length_drop]; omega
      by_cases heq : l[k].1 = r.1
      · have hq : (l[k].1 == r.1) = true := by simpa using heq
        have hr2 : (0 : Int) ≤ ((k + 1 : Nat) : Int) ∧ ((k + 1 : Nat) : Int) ≤ (l.length : Int) := by omega
        have hput : putL l r = l.take k ++ [r] ++ l.drop (k + 1) := by simp only [putL, hk0, hdl2, heq, if_true]
        repeat' (first
    | ((first | ((with_reducible refine awOps_move ?_ ?_); decide +kernel) | ((with_reducible refine awOps_load ?_ ?_); decide +kernel) | ((with_reducible refine awOps_one ?_ ?_); decide +kernel) | (with_reducible refine awOps_feed ?_) | ((with_reducible refine awOps_g ?_); refine awOps_guard rfl ?_) | ((with_reducible refine awT_one ?_ ?_); decide +kernel) | ((with_reducible refine awT_call ?_ ?_); decide +kernel) | ((with_reducible refine awT_g ?_); refine awT_guard rfl ?_) | ((with_reducible refine awU_one ?_ ?_); decide +kernel) | ((with_reducible refine awU_call ?_ ?_); decide +kernel) | ((with_reducible refine awU_g ?_); refine awU_guard rfl ?_) | (with_reducible refine AWp.condH ?_)); intro K Q' hK hQ; simp only [hd, hw, h1, h2, hr, encR, hq, go_sem, Nat.reduceAdd, Nat.reduceSub, Nat.reduceMul, Nat.reduceDiv, Nat.reduceMod, Nat.reduceLT, Nat.reduceLeDiff, Nat.reduceEqDiff, Nat.reduceBEq, Nat.reduceBNe, reduceCtorEq, Int.reduceLE, Int.reduceLT, Int.reduceNeg, Int.reduceToNat, Int.reduceAdd, Int.reduceSub, Int.reduceMul, Int.reduceBEq, Int.reduceBNe, Int.reduceEq]; subst hK hQ)
    | ((with_reducible refine AWp.drawT Try.follows ?_ ?_); decide +kernel) | ((with_reducible refine AWp.drawU Try.follows ?_ ?_); decide +kernel)
    | with_reducible (first | refine awOps_end ?_ | refine awT_end ?_ | refine awU_end ?_ | refine nThen ?_ | refine putKn ?_ | refine nSuf ?_ | refine rThen ?_ | refine eThen ?_ | refine nBlock ?_ | refine eBlock ?_ | refine fBlock (by decide) ?_ | refine rBlock ?_ | refine nScope ?_ | refine eScope ?_ | refine rScope ?_ | refine AWp.seq ?_ | refine AWp.block ?_ | refine AWp.scope ?_ | refine AWp.text ?_ | refine AWp.skip ?_ | refine AWp.exit ?_ | refine AWp.ret ?_ | refine AWp.label ?_ | refine brK_T (by assumption) ?_ | refine brK_F (by assumption) ?_ | refine brK_mk (fun hb => ?_) (fun hb => ?_))
    | ((with_reducible refine And.intro ?_ ?_); focus (first | assumption | omega | (simp only [go_sem, reduceCtorEq]; done)))
    | ((with_reducible (first | refine rBodyZ ?_ | refine nBodyZ ?_ | refine rBodyQ ?_ | refine nBodyQ ?_)); simp only [hd, hw, h1, h2, hr, encR, hq, go_sem, Nat.reduceAdd, Nat.reduceSub, Nat.reduceMul, Nat.reduceDiv, Nat.reduceMod, Nat.reduceLT, Nat.reduceLeDiff, Nat.reduceEqDiff, Nat.reduceBEq, Nat.reduceBNe, reduceCtorEq, Int.reduceLE, Int.reduceLT, Int.reduceNeg, Int.reduceToNat, Int.reduceAdd, Int.reduceSub, Int.reduceMul, Int.reduceBEq, Int.reduceBNe, Int.reduceEq]))
        refine appC.l ?_
        simp only [aappend, asrc, appK, hdr _ hkl, encRs_pl, encRs_one, hc2, hc1, go_sem, Nat.reduceAdd, Nat.reduceSub, Nat.reduceMul, Nat.reduceDiv, Nat.reduceMod, Nat.reduceLT, Nat.reduceLeDiff, Nat.reduceEqDiff, Nat.reduceBEq, Nat.reduceBNe, reduceCtorEq, Int.reduceLE, Int.reduceLT, Int.reduceNeg, Int.reduceToNat, Int.reduceAdd, Int.reduceSub, Int.reduceMul, Int.reduceBEq, Int.reduceBNe, Int.reduceEq]
        have he : encRs (l.take k) ++ .s r.1 :: .s r.2 :: encRs (l.drop (k + 1)) = encRs (putL l r) := by rw [hput]; simp [encRs, encR]
        have hln : k + 1 + (l.length - (k + 1)) = (putL l r).length := by rw [hput]; simp; omega
        rw [he, hln]
        refine ⟨by rw [← hln]; omega, ?_⟩
        repeat' (first
    | ((first | ((with_reducible refine awOps_move ?_ ?_); decide +kernel) | ((with_reducible refine awOps_load ?_ ?_); decide +kernel) | ((with_reducible refine awOps_one ?_ ?_); decide +kernel) | (with_reducible refine awOps_feed ?_) | ((with_reducible refine awOps_g ?_); refine awOps_guard rfl ?_) | ((with_reducible refine awT_one ?_ ?_); decide +kernel) | ((with_reducible refine awT_call ?_ ?_); decide +kernel) | ((with_reducible refine awT_g ?_); refine awT_guard rfl ?_) | ((with_reducible refine awU_one ?_ ?_); decide +kernel) | ((with_reducible refine awU_call ?_ ?_); decide +kernel) | ((with_reducible refine awU_g ?_); refine awU_guard rfl ?_) | (with_reducible refine AWp.condH ?_)); intro K Q' hK hQ; simp only [go_sem, Nat.reduceAdd, Nat.reduceSub, Nat.reduceMul, Nat.reduceDiv, Nat.reduceMod, Nat.reduceLT, Nat.reduceLeDiff, Nat.reduceEqDiff, Nat.reduceBEq, Nat.reduceBNe, reduceCtorEq, Int.reduceLE, Int.reduceLT, Int.reduceNeg, Int.reduceToNat, Int.reduceAdd, Int.reduceSub, Int.reduceMul, Int.reduceBEq, Int.reduceBNe, Int.reduceEq]; subst hK hQ)
    | ((with_reducible refine AWp.drawT Try.follows ?_ ?_); decide +kernel) | ((with_reducible refine AWp.drawU Try.follows ?_ ?_); decide +kernel)
    | with_reducible (first | refine awOps_end ?_ | refine awT_end ?_ | refine awU_end ?_ | refine nThen ?_ | refine putKn ?_ | refine nSuf ?_ | refine rThen ?_ | refine eThen ?_ | refine nBlock ?_ | refine eBlock ?_ | refine fBlock (by decide) ?_ | refine rBlock ?_ | refine nScope ?_ | refine eScope ?_ | refine rScope ?_ | refine AWp.seq ?_ | refine AWp.block ?_ | refine AWp.scope ?_ | refine AWp.text ?_ | refine AWp.skip ?_ | refine AWp.exit ?_ | refine AWp.ret ?_ | refine AWp.label ?_ | refine brK_T (by assumption) ?_ | refine brK_F (by assumption) ?_ | refine brK_mk (fun hb => ?_) (fun hb => ?_))
    | ((with_reducible refine And.intro ?_ ?_); focus (first | assumption | omega | (simp only [go_sem, reduceCtorEq]; done)))
    | ((with_reducible (first | refine rBodyZ ?_ | refine nBodyZ ?_ | refine rBodyQ ?_ | refine nBodyQ ?_)); simp only [go_sem, Nat.reduceAdd, Nat.reduceSub, Nat.reduceMul, Nat.reduceDiv, Nat.reduceMod, Nat.reduceLT, Nat.reduceLeDiff, Nat.reduceEqDiff, Nat.reduceBEq, Nat.reduceBNe, reduceCtorEq, Int.reduceLE, Int.reduceLT, Int.reduceNeg, Int.reduceToNat, Int.reduceAdd, Int.reduceSub, Int.reduceMul, Int.reduceBEq, Int.reduceBNe, Int.reduceEq]))
        exact ⟨cleanRs _ _, rfl, rfl⟩
      · have hq : (l[k].1 == r.1) = false := by simpa using heq
        have hput : putL l r = l.take k ++ [r] ++ l.drop k := by simp only [putL, hk0, hdl2, heq, if_false]
        repeat' (first
    | ((first | ((with_reducible refine awOps_move ?_ ?_); decide +kernel) | ((with_reducible refine awOps_load ?_ ?_); decide +kernel) | ((with_reducible refine awOps_one ?_ ?_); decide +kernel) | (with_reducible refine awOps_feed ?_) | ((with_reducible refine awOps_g ?_); refine awOps_guard rfl ?_) | ((with_reducible refine awT_one ?_ ?_); decide +kernel) | ((with_reducible refine awT_call ?_ ?_); decide +kernel) | ((with_reducible refine awT_g ?_); refine awT_guard rfl ?_) | ((with_reducible refine awU_one ?_ ?_); decide +kernel) | ((with_reducible refine awU_call ?_ ?_); decide +kernel) | ((with_reducible refine awU_g ?_); refine awU_guard rfl ?_) | (with_reducible refine AWp.condH ?_)); intro K Q' hK hQ; simp only [hd, hw, h1, h2, hr, encR, hq, go_sem, Nat.reduceAdd, Nat.reduceSub, Nat.reduceMul, Nat.reduceDiv, Nat.reduceMod, Nat.reduceLT, Nat.reduceLeDiff, Nat.reduceEqDiff, Nat.reduceBEq, Nat.reduceBNe, reduceCtorEq, Int.reduceLE, Int.reduceLT, Int.reduceNeg, Int.reduceToNat, Int.reduceAdd, Int.reduceSub, Int.reduceMul, Int.reduceBEq, Int.reduceBNe, Int.reduceEq]; subst hK hQ)
    | ((with_reducible refine AWp.drawT Try.follows ?_ ?_); decide +kernel) | ((with_reducible refine AWp.drawU Try.follows ?_ ?_); decide +kernel)
    | with_reducible (first | refine awOps_end ?_ | refine awT_end ?_ | refine awU_end ?_ | refine nThen ?_ | refine putKn ?_ | refine nSuf ?_ | refine rThen ?_ | refine eThen ?_ | refine nBlock ?_ | refine eBlock ?_ | refine fBlock (by decide) ?_ | refine rBlock ?_ | refine nScope ?_ | refine eScope ?_ | refine rScope ?_ | refine AWp.seq ?_ | refine AWp.block ?_ | refine AWp.scope ?_ | refine AWp.text ?_ | refine AWp.skip ?_ | refine AWp.exit ?_ | refine AWp.ret ?_ | refine AWp.label ?_ | refine brK_T (by assumption) ?_ | refine brK_F (by assumption) ?_ | refine brK_mk (fun hb => ?_) (fun hb => ?_))
    | ((with_reducible refine And.intro ?_ ?_); focus (first | assumption | omega | (simp only [go_sem, reduceCtorEq]; done)))
    | ((with_reducible (first | refine rBodyZ ?_ | refine nBodyZ ?_ | refine rBodyQ ?_ | refine nBodyQ ?_)); simp only [hd, hw, h1, h2, hr, encR, hq, go_sem, Nat.reduceAdd, Nat.reduceSub, Nat.reduceMul, Nat.reduceDiv, Nat.reduceMod, Nat.reduceLT, Nat.reduceLeDiff, Nat.reduceEqDiff, Nat.reduceBEq, Nat.reduceBNe, reduceCtorEq, Int.reduceLE, Int.reduceLT, Int.reduceNeg, Int.reduceToNat, Int.reduceAdd, Int.reduceSub, Int.reduceMul, Int.reduceBEq, Int.reduceBNe, Int.reduceEq]))
        refine appC.l ?_
        simp only [aappend, asrc, appK, hdr _ (Nat.le_of_lt hkl), encRs_pl, encRs_one, hc2, hc1, go_sem, Nat.reduceAdd, Nat.reduceSub, Nat.reduceMul, Nat.reduceDiv, Nat.reduceMod, Nat.reduceLT, Nat.reduceLeDiff, Nat.reduceEqDiff, Nat.reduceBEq, Nat.reduceBNe, reduceCtorEq, Int.reduceLE, Int.reduceLT, Int.reduceNeg, Int.reduceToNat, Int.reduceAdd, Int.reduceSub, Int.reduceMul, Int.reduceBEq, Int.reduceBNe, Int.reduceEq]
        have he : encRs (l.take k) ++ .s r.1 :: .s r.2 :: encRs (l.drop k) = encRs (putL l r) := by rw [hput]; simp [encRs, encR]
        have hln : k + 1 + (l.length - k) = (putL l r).length := by rw [hput]; simp; omega
        rw [he, hln]
        refine ⟨by rw [← hln]; omega, ?_⟩
        repeat' (first
    | ((first | ((with_reducible refine awOps_move ?_ ?_); decide +kernel) | ((with_reducible refine awOps_load ?_ ?_); decide +kernel) | ((with_reducible refine awOps_one ?_ ?_); decide +kernel) | (with_reducible refine awOps_feed ?_) | ((with_reducible refine awOps_g ?_); refine awOps_guard rfl ?_) | ((with_reducible refine awT_one ?_ ?_); decide +kernel) | ((with_reducible refine awT_call ?_ ?_); decide +kernel) | ((with_reducible refine awT_g ?_); refine awT_guard rfl ?_) | ((with_reducible refine awU_one ?_ ?_); decide +kernel) | ((with_reducible refine awU_call ?_ ?_); decide +kernel) | ((with_reducible refine awU_g ?_); refine awU_guard rfl ?_) | (with_reducible refine AWp.condH ?_)); intro K Q' hK hQ; simp only [go_sem, Nat.reduceAdd, Nat.reduceSub, Nat.reduceMul, Nat.reduceDiv, Nat.reduceMod, Nat.reduceLT, Nat.reduceLeDiff, Nat.reduceEqDiff, Nat.reduceBEq, Nat.reduceBNe, reduceCtorEq, Int.reduceLE, Int.reduceLT, Int.reduceNeg, Int.reduceToNat, Int.reduceAdd, Int.reduceSub, Int.reduceMul, Int.reduceBEq, Int.reduceBNe, Int.reduceEq]; subst hK hQ)
    | ((with_reducible refine AWp.drawT Try.follows ?_ ?_); decide +kernel) | ((with_reducible refine AWp.drawU Try.follows ?_ ?_); decide +kernel)
    | with_reducible (first | refine awOps_end ?_ | refine awT_end ?_ | refine awU_end ?_ | refine nThen ?_ | refine putKn ?_ | refine nSuf ?_ | refine rThen ?_ | refine eThen ?_ | refine nBlock ?_ | refine eBlock ?_ | refine fBlock (by decide) ?_ | refine rBlock ?_ | refine nScope ?_ | refine eScope ?_ | refine rScope ?_ | refine AWp.seq ?_ | refine AWp.block ?_ | refine AWp.scope ?_ | refine AWp.text ?_ | refine AWp.skip ?_ | refine AWp.exit ?_ | refine AWp.ret ?_ | refine AWp.label ?_ | refine brK_T (by assumption) ?_ | refine brK_F (by assumption) ?_ | refine brK_mk (fun hb => ?_) (fun hb => ?_))
    | ((with_reducible refine And.intro ?_ ?_); focus (first | assumption | omega | (simp only [go_sem, reduceCtorEq]; done)))
    | ((with_reducible (first | refine rBodyZ ?_ | refine nBodyZ ?_ | refine rBodyQ ?_ | refine nBodyQ ?_)); simp only [go_sem, Nat.reduceAdd, Nat.reduceSub, Nat.reduceMul, Nat.reduceDiv, Nat.reduceMod, Nat.reduceLT, Nat.reduceLeDiff, Nat.reduceEqDiff, Nat.reduceBEq, Nat.reduceBNe, reduceCtorEq, Int.reduceLE, Int.reduceLT, Int.reduceNeg, Int.reduceToNat, Int.reduceAdd, Int.reduceSub, Int.reduceMul, Int.reduceBEq, Int.reduceBNe, Int.reduceEq]))
        exact ⟨cleanRs _ _, rfl, rfl⟩
    · have hkl' : k = l.length := by omega
      subst hkl'
      have hd : decide ((l.length : Int) < (l.length : Int)) = false := by simp
      have hput : putL l r = l ++ [r] := by simp [putL, hk0]
      rw [List.take_length] at *
      repeat' (first
    | ((first | ((with_reducible refine awOps_move ?_ ?_); decide +kernel) | ((with_reducible refine awOps_load ?_ ?_); decide +kernel) | ((with_reducible refine awOps_one ?_ ?_); decide +kernel) | (with_reducible refine awOps_feed ?_) | ((with_reducible refine awOps_g ?_); refine awOps_guard rfl ?_) | ((with_reducible refine awT_one ?_ ?_); decide +kernel) | ((with_reducible refine awT_call ?_ ?_); decide +kernel) | ((with_reducible refine awT_g ?_); refine awT_guard rfl ?_) | ((with_reducible refine awU_one ?_ ?_); decide +kernel) | ((with_reducible refine awU_call ?_ ?_); decide +kernel) | ((with_reducible refine awU_g ?_); refine awU_guard rfl ?_) | (with_reducible refine AWp.condH ?_)); intro K Q' hK hQ; simp only [hd, encR, go_sem, Nat.reduceAdd, Nat.reduceSub, Nat.reduceMul, Nat.reduceDiv, Nat.reduceMod, Nat.reduceLT, Nat.reduceLeDiff, Nat.reduceEqDiff, Nat.reduceBEq, Nat.reduceBNe, reduceCtorEq, Int.reduceLE, Int.reduceLT, Int.reduceNeg, Int.reduceToNat, Int.reduceAdd, Int.reduceSub, Int.reduceMul, Int.reduceBEq, Int.reduceBNe, Int.reduceEq]; subst hK hQ)
    | ((with_reducible refine AWp.drawT Try.follows ?_ ?_); decide +kernel) | ((with_reducible refine AWp.drawU Try.follows ?_ ?_); decide +kernel)
    | with_reducible (first | refine awOps_end ?_ | refine awT_end ?_ | refine awU_end ?_ | refine nThen ?_ | refine putKn ?_ | refine nSuf ?_ | refine rThen ?_ | refine eThen ?_ | refine nBlock ?_ | refine eBlock ?_ | refine fBlock (by decide) ?_ | refine rBlock ?_ | refine nScope ?_ | refine eScope ?_ | refine rScope ?_ | refine AWp.seq ?_ | refine AWp.block ?_ | refine AWp.scope ?_ | refine AWp.text ?_ | refine AWp.skip ?_ | refine AWp.exit ?_ | refine AWp.ret ?_ | refine AWp.label ?_ | refine brK_T (by assumption) ?_ | refine brK_F (by assumption) ?_ | refine brK_mk (fun hb => ?_) (fun hb => ?_))
    | ((with_reducible refine And.intro ?_ ?_); focus (first | assumption | omega | (simp only [go_sem, reduceCtorEq]; done)))
    | ((with_reducible (first | refine rBodyZ ?_ | refine nBodyZ ?_ | refine rBodyQ ?_ | refine nBodyQ ?_)); simp only [hd, encR, go_sem, Nat.reduceAdd, Nat.reduceSub, Nat.reduceMul, Nat.reduceDiv, Nat.reduceMod, Nat.reduceLT, Nat.reduceLeDiff, Nat.reduceEqDiff, Nat.reduceBEq, Nat.reduceBNe, reduceCtorEq, Int.reduceLE, Int.reduceLT, Int.reduceNeg, Int.reduceToNat, Int.reduceAdd, Int.reduceSub, Int.reduceMul, Int.reduceBEq, Int.reduceBNe, Int.reduceEq]))
      refine appC.l ?_
      simp only [aappend, asrc, appK, hte, Nat.sub_zero, List.drop_zero, encRs_pl, encRs_one, hc1, go_sem, Nat.reduceAdd, Nat.reduceSub, Nat.reduceMul, Nat.reduceDiv, Nat.reduceMod, Nat.reduceLT, Nat.reduceLeDiff, Nat.reduceEqDiff, Nat.reduceBEq, Nat.reduceBNe, reduceCtorEq, Int.reduceLE, Int.reduceLT, Int.reduceNeg, Int.reduceToNat, Int.reduceAdd, Int.reduceSub, Int.reduceMul, Int.reduceBEq, Int.reduceBNe, Int.reduceEq]
      refine ⟨⟨rfl, by omega, by omega⟩, ?_⟩
      repeat' (first
    | ((first | ((with_reducible refine awOps_move ?_ ?_); decide +kernel) | ((with_reducible refine awOps_load ?_ ?_); decide +kernel) | ((with_reducible refine awOps_one ?_ ?_); decide +kernel) | (with_reducible refine awOps_feed ?_) | ((with_reducible refine awOps_g ?_); refine awOps_guard rfl ?_) | ((with_reducible refine awT_one ?_ ?_); decide +kernel) | ((with_reducible refine awT_call ?_ ?_); decide +kernel) | ((with_reducible refine awT_g ?_); refine awT_guard rfl ?_) | ((with_reducible refine awU_one ?_ ?_); decide +kernel) | ((with_reducible refine awU_call ?_ ?_); decide +kernel) | ((with_reducible refine awU_g ?_); refine awU_guard rfl ?_) | (with_reducible refine AWp.condH ?_)); intro K Q' hK hQ; simp only [encR, go_sem, Nat.reduceAdd, Nat.reduceSub, Nat.reduceMul, Nat.reduceDiv, Nat.reduceMod, Nat.reduceLT, Nat.reduceLeDiff, Nat.reduceEqDiff, Nat.reduceBEq, Nat.reduceBNe, reduceCtorEq, Int.reduceLE, Int.reduceLT, Int.reduceNeg, Int.reduceToNat, Int.reduceAdd, Int.reduceSub, Int.reduceMul, Int.reduceBEq, Int.reduceBNe, Int.reduceEq]; subst hK hQ)
    | ((with_reducible refine AWp.drawT Try.follows ?_ ?_); decide +kernel) | ((with_reducible refine AWp.drawU Try.follows ?_ ?_); decide +kernel)
    | with_reducible (first | refine awOps_end ?_ | refine awT_end ?_ | refine awU_end ?_ | refine nThen ?_ | refine putKn ?_ | refine nSuf ?_ | refine rThen ?_ | refine eThen ?_ | refine nBlock ?_ | refine eBlock ?_ | refine fBlock (by decide) ?_ | refine rBlock ?_ | refine nScope ?_ | refine eScope ?_ | refine rScope ?_ | refine AWp.seq ?_ | refine AWp.block ?_ | refine AWp.scope ?_ | refine AWp.text ?_ | refine AWp.skip ?_ | refine AWp.exit ?_ | refine AWp.ret ?_ | refine AWp.label ?_ | refine brK_T (by assumption) ?_ | refine brK_F (by assumption) ?_ | refine brK_mk (fun hb => ?_) (fun hb => ?_))
    | ((with_reducible refine And.intro ?_ ?_); focus (first | assumption | omega | (simp only [go_sem, reduceCtorEq]; done)))
    | ((with_reducible (first | refine rBodyZ ?_ | refine nBodyZ ?_ | refine rBodyQ ?_ | refine nBodyQ ?_)); simp only [encR, go_sem, Nat.reduceAdd, Nat.reduceSub, Nat.reduceMul, Nat.reduceDiv, Nat.reduceMod, Nat.reduceLT, Nat.reduceLeDiff, Nat.reduceEqDiff, Nat.reduceBEq, Nat.reduceBNe, reduceCtorEq, Int.reduceLE, Int.reduceLT, Int.reduceNeg, Int.reduceToNat, Int.reduceAdd, Int.reduceSub, Int.reduceMul, Int.reduceBEq, Int.reduceBNe, Int.reduceEq]))
      refine appC.l ?_
      simp only [aappend, asrc, appK, hc1, go_sem, Nat.reduceAdd, Nat.reduceSub, Nat.reduceMul, Nat.reduceDiv, Nat.reduceMod, Nat.reduceLT, Nat.reduceLeDiff, Nat.reduceEqDiff, Nat.reduceBEq, Nat.reduceBNe, reduceCtorEq, Int.reduceLE, Int.reduceLT, Int.reduceNeg, Int.reduceToNat, Int.reduceAdd, Int.reduceSub, Int.reduceMul, Int.reduceBEq, Int.reduceBNe, Int.reduceEq]
      refine ⟨by omega, ?_⟩
      repeat' (first
    | ((first | ((with_reducible refine awOps_move ?_ ?_); decide +kernel) | ((with_reducible refine awOps_load ?_ ?_); decide +kernel) | ((with_reducible refine awOps_one ?_ ?_); decide +kernel) | (with_reducible refine awOps_feed ?_) | ((with_reducible refine awOps_g ?_); refine awOps_guard rfl ?_) | ((with_reducible refine awT_one ?_ ?_); decide +kernel) | ((with_reducible refine awT_call ?_ ?_); decide +kernel) | ((with_reducible refine awT_g ?_); refine awT_guard rfl ?_) | ((with_reducible refine awU_one ?_ ?_); decide +kernel) | ((with_reducible refine awU_call ?_ ?_); decide +kernel) | ((with_reducible refine awU_g ?_); refine awU_guard rfl ?_) | (with_reducible refine AWp.condH ?_)); intro K Q' hK hQ; simp only [hd, encR, go_sem, Nat.reduceAdd, Nat.reduceSub, Nat.reduceMul, Nat.reduceDiv, Nat.reduceMod, Nat.reduceLT, Nat.reduceLeDiff, Nat.reduceEqDiff, Nat.reduceBEq, Nat.reduceBNe, reduceCtorEq, Int.reduceLE, Int.reduceLT, Int.reduceNeg, Int.reduceToNat, Int.reduceAdd, Int.reduceSub, Int.reduceMul, Int.reduceBEq, Int.reduceBNe, Int.reduceEq]; subst hK hQ)
    | ((with_reducible refine AWp.drawT Try.follows ?_ ?_); decide +kernel) | ((with_reducible refine AWp.drawU Try.follows ?_ ?_); decide +kernel)
    | with_reducible (first | refine awOps_end ?_ | refine awT_end ?_ | refine awU_end ?_ | refine nThen ?_ | refine putKn ?_ | refine nSuf ?_ | refine rThen ?_ | refine eThen ?_ | refine nBlock ?_ | refine eBlock ?_ | refine fBlock (by decide) ?_ | refine rBlock ?_ | refine nScope ?_ | refine eScope ?_ | refine rScope ?_ | refine AWp.seq ?_ | refine AWp.block ?_ | refine AWp.scope ?_ | refine AWp.text ?_ | refine AWp.skip ?_ | refine AWp.exit ?_ | refine AWp.ret ?_ | refine AWp.label ?_ | refine brK_T (by assumption) ?_ | refine brK_F (by assumption) ?_ | refine brK_mk (fun hb => ?_) (fun hb => ?_))
    | ((with_reducible refine And.intro ?_ ?_); focus (first | assumption | omega | (simp only [go_sem, reduceCtorEq]; done)))
    | ((with_reducible (first | refine rBodyZ ?_ | refine nBodyZ ?_ | refine rBodyQ ?_ | refine nBodyQ ?_)); simp only [hd, encR, go_sem, Nat.reduceAdd, Nat.reduceSub, Nat.reduceMul, Nat.reduceDiv, Nat.reduceMod, Nat.reduceLT, Nat.reduceLeDiff, Nat.reduceEqDiff, Nat.reduceBEq, Nat.reduceBNe, reduceCtorEq, Int.reduceLE, Int.reduceLT, Int.reduceNeg, Int.reduceToNat, Int.reduceAdd, Int.reduceSub, Int.reduceMul, Int.reduceBEq, Int.reduceBNe, Int.reduceEq]))
      refine appC.l ?_
      have hdr0 : List.take ((l.length - l.length) * 2) (List.drop (l.length * 2) (encRs l)) = [] := by simp
      simp only [aappend, asrc, appK, hdr0, Nat.sub_self, hc1, go_sem, Nat.reduceAdd, Nat.reduceSub, Nat.reduceMul, Nat.reduceDiv, Nat.reduceMod, Nat.reduceLT, Nat.reduceLeDiff, Nat.reduceEqDiff, Nat.reduceBEq, Nat.reduceBNe, reduceCtorEq, Int.reduceLE, Int.reduceLT, Int.reduceNeg, Int.reduceToNat, Int.reduceAdd, Int.reduceSub, Int.reduceMul, Int.reduceBEq, Int.reduceBNe, Int.reduceEq]
      have he : encRs l ++ [.s r.1, .s r.2] = encRs (putL l r) := by rw [hput]; simp [encRs, encR]
      have hln : l.length + 1 = (putL l r).length := by rw [hput]; simp
      rw [he, hln]
      refine ⟨by rw [← hln]; omega, ?_⟩
      repeat' (first
    | ((first | ((with_reducible refine awOps_move ?_ ?_); decide +kernel) | ((with_reducible refine awOps_load ?_ ?_); decide +kernel) | ((with_reducible refine awOps_one ?_ ?_); decide +kernel) | (with_reducible refine awOps_feed ?_) | ((with_reducible refine awOps_g ?_); refine awOps_guard rfl ?_) | ((with_reducible refine awT_one ?_ ?_); decide +kernel) | ((with_reducible refine awT_call ?_ ?_); decide +kernel) | ((with_reducible refine awT_g ?_); refine awT_guard rfl ?_) | ((with_reducible refine awU_one ?_ ?_); decide +kernel) | ((with_reducible refine awU_call ?_ ?_); decide +kernel) | ((with_reducible refine awU_g ?_); refine awU_guard rfl ?_) | (with_reducible refine AWp.condH ?_)); intro K Q' hK hQ; simp only [go_sem, Nat.reduceAdd, Nat.reduceSub, Nat.reduceMul, Nat.reduceDiv, Nat.reduceMod, Nat.reduceLT, Nat.reduceLeDiff, Nat.reduceEqDiff, Nat.reduceBEq, Nat.reduceBNe, reduceCtorEq, Int.reduceLE, Int.reduceLT, Int.reduceNeg, Int.reduceToNat, Int.reduceAdd, Int.reduceSub, Int.reduceMul, Int.reduceBEq, Int.reduceBNe, Int.reduceEq]; subst hK hQ)
    | ((with_reducible refine AWp.drawT Try.follows ?_ ?_); decide +kernel) | ((with_reducible refine AWp.drawU Try.follows ?_ ?_); decide +kernel)
    | with_reducible (first | refine awOps_end ?_ | refine awT_end ?_ | refine awU_end ?_ | refine nThen ?_ | refine putKn ?_ | refine nSuf ?_ | refine rThen ?_ | refine eThen ?_ | refine nBlock ?_ | refine eBlock ?_ | refine fBlock (by decide) ?_ | refine rBlock ?_ | refine nScope ?_ | refine eScope ?_ | refine rScope ?_ | refine AWp.seq ?_ | refine AWp.block ?_ | refine AWp.scope ?_ | refine AWp.text ?_ | refine AWp.skip ?_ | refine AWp.exit ?_ | refine AWp.ret ?_ | refine AWp.label ?_ | refine brK_T (by assumption) ?_ | refine brK_F (by assumption) ?_ | refine brK_mk (fun hb => ?_) (fun hb => ?_))
    | ((with_reducible refine And.intro ?_ ?_); focus (first | assumption | omega | (simp only [go_sem, reduceCtorEq]; done)))
    | ((with_reducible (first | refine rBodyZ ?_ | refine nBodyZ ?_ | refine rBodyQ ?_ | refine nBodyQ ?_)); simp only [go_sem, Nat.reduceAdd, Nat.reduceSub, Nat.reduceMul, Nat.reduceDiv, Nat.reduceMod, Nat.reduceLT, Nat.reduceLeDiff, Nat.reduceEqDiff, Nat.reduceBEq, Nat.reduceBNe, reduceCtorEq, Int.reduceLE, Int.reduceLT, Int.reduceNeg, Int.reduceToNat, Int.reduceAdd, Int.reduceSub, Int.reduceMul, Int.reduceBEq, Int.reduceBNe, Int.reduceEq]))
      exact ⟨cleanRs _ _, rfl, rfl⟩
end Go.Proofs.Ytoofpdmdgofdcaa.L

namespace Go.Proofs.Ytoofpdmdgofdcaa.L
open Go Go.RowKit Go.Proofs.Ytoofpdmdgofdcaa.E
set_option linter.unusedVariables false
set_option linter.unusedSimpArgs false
set_option maxRecDepth 10000
set_option maxHeartbeats 1000000
def putAll (l : List PRec) : List PRec := l.foldl putL []
theorem putAll_snoc (l : List PRec) (r : PRec) : putAll (l ++ [r]) = putL (putAll l) r := by simp [putAll]
theorem putL_len (l : List PRec) (r : PRec) : (putL l r).length ≤ l.length + 1 := by
  have hal := ahead_le r.1 l
  have hd : (l.drop (ahead r.1 l)).length = l.length - ahead r.1 l := List.length_drop
  simp only [putL, List.length_append, List.length_take, List.length_cons, List.length_nil]
  cases h : l.drop (ahead r.1 l) with
  | nil => rw [h] at hd; simp; omega
  | cons a t =>
    rw [h] at hd
    simp only [List.length_cons] at hd
    simp only
    split <;> simp <;> omega
theorem putAll_len (l : List PRec) (k : Nat) (h : k ≤ l.length) : (putAll (l.take k)).length ≤ k := by
  induction k with
  | zero => simp [putAll]
  | succ k ih =>
    have hlt : k < l.length := h
    rw [show l.take (k + 1) = l.take k ++ [l[k]] by rw [List.take_add_one, List.getElem?_eq_getElem hlt]; rfl, putAll_snoc]
    exact Nat.le_trans (putL_len _ _) (by have := ih (by omega); omega)
/-- What says nothing goes. -/
def noEmpty (l : List PRec) : List PRec := l.filter fun r => !(r.2 == [])

theorem refMerge (l : List PRec) (hl : l.length ≤ 274877906944) (σ : AState) :
    ACalls Try.prog G0 31 [.sl .no l.length (encRs l), .sl .nil 0 []] σ (retIs (vN (noEmpty (putAll l)).length (encRs (noEmpty (putAll l)))) σ) := by
  refine ACalls.bodyZ G0_pl Try.func31 rfl (by rfl) (by decide) ?_; simp only [Try.ntmps31, List.replicate, go_sem, Nat.reduceAdd, Nat.reduceSub]
  repeat' (first
    | ((first | ((with_reducible refine awOps_move ?_ ?_); decide +kernel) | ((with_reducible refine awOps_load ?_ ?_); decide +kernel) | ((with_reducible refine awOps_one ?_ ?_); decide +kernel) | (with_reducible refine awOps_feed ?_) | ((with_reducible refine awOps_g ?_); refine awOps_guard rfl ?_) | ((with_reducible refine awT_one ?_ ?_); decide +kernel) | ((with_reducible refine awT_call ?_ ?_); decide +kernel) | ((with_reducible refine awT_g ?_); refine awT_guard rfl ?_) | ((with_reducible refine awU_one ?_ ?_); decide +kernel) | ((with_reducible refine awU_call ?_ ?_); decide +kernel) | ((with_reducible refine awU_g ?_); refine awU_guard rfl ?_) | (with_reducible refine AWp.condH ?_)); intro K Q' hK hQ; simp only [cnil, go_sem, Nat.reduceAdd, Nat.reduceSub, Nat.reduceMul, Nat.reduceDiv, Nat.reduceMod, Nat.reduceLT, Nat.reduceLeDiff, Nat.reduceEqDiff, Nat.reduceBEq, Nat.reduceBNe, reduceCtorEq, Int.reduceLE, Int.reduceLT, Int.reduceNeg, Int.reduceToNat, Int.reduceAdd, Int.reduceSub, Int.reduceMul, Int.reduceBEq, Int.reduceBNe, Int.reduceEq]; subst hK hQ)
    | ((with_reducible refine AWp.drawT Try.follows ?_ ?_); decide +kernel) | ((with_reducible refine AWp.drawU Try.follows ?_ ?_); decide +kernel)
    | with_reducible (first | refine awOps_end ?_ | refine awT_end ?_ | refine awU_end ?_ | refine nThen ?_ | refine putKn ?_ | refine nSuf ?_ | refine rThen ?_ | refine eThen ?_ | refine nBlock ?_ | refine eBlock ?_ | refine fBlock (by decide) ?_ | refine rBlock ?_ | refine nScope ?_ | refine eScope ?_ | refine rScope ?_ | refine AWp.seq ?_ | refine AWp.block ?_ | refine AWp.scope ?_ | refine AWp.text ?_ | refine AWp.skip ?_ | refine AWp.exit ?_ | refine AWp.ret ?_ | refine AWp.label ?_ | refine brK_T (by assumption) ?_ | refine brK_F (by assumption) ?_ | refine brK_mk (fun hb => ?_) (fun hb => ?_))
    | ((with_reducible refine And.intro ?_ ?_); focus (first | assumption | omega | (simp only [go_sem, reduceCtorEq]; done)))
    | ((with_reducible (first | refine rBodyZ ?_ | refine nBodyZ ?_ | refine rBodyQ ?_ | refine nBodyQ ?_)); simp only [cnil, go_sem, Nat.reduceAdd, Nat.reduceSub, Nat.reduceMul, Nat.reduceDiv, Nat.reduceMod, Nat.reduceLT, Nat.reduceLeDiff, Nat.reduceEqDiff, Nat.reduceBEq, Nat.reduceBNe, reduceCtorEq, Int.reduceLE, Int.reduceLT, Int.reduceNeg, Int.reduceToNat, Int.reduceAdd, Int.reduceSub, Int.reduceMul, Int.reduceBEq, Int.reduceBNe, Int.reduceEq]))
  refine AWp.loop (α := Nat) (fun k => k ≤ l.length) (fun k => l.length - k) (fun k => mkE 54 [(0, .sl .no l.length (encRs l)), (1, .sl .nil 0 []), (5, .sl .no (putAll (l.take k)).length (encRs (putAll (l.take k)))), (6, .i .i64 k)]) (fun _ => σ) 0 (Nat.zero_le _) ?_ ?_ ?_
  · simp only [Int.natCast_zero, putAll, List.take_zero, List.foldl_nil, encRs, List.flatMap_nil, List.length_nil, go_sem, Nat.reduceAdd, Nat.reduceSub, Nat.reduceMul, Nat.reduceDiv, Nat.reduceMod, Nat.reduceLT, Nat.reduceLeDiff, Nat.reduceEqDiff, Nat.reduceBEq, Nat.reduceBNe, reduceCtorEq, Int.reduceLE, Int.reduceLT, Int.reduceNeg, Int.reduceToNat, Int.reduceAdd, Int.reduceSub, Int.reduceMul, Int.reduceBEq, Int.reduceBNe, Int.reduceEq]
  · exact WeakS.refl _
  intro k hk
  by_cases hlt : k < l.length
  · have hd : decide ((k : Int) < (l.length : Int)) = true := by simp; omega
    have hw := wrapS (k := k) (by omega)
    obtain ⟨h1, h2⟩ := encRs_get l k l[k] (List.getElem?_eq_getElem hlt)
    have hr : (0 : Int) ≤ (k : Int) ∧ (k : Int) < (l.length : Int) := by omega
    have hpl := putAll_len l k hk
    repeat' (first
    | ((first | ((with_reducible refine awOps_move ?_ ?_); decide +kernel) | ((with_reducible refine awOps_load ?_ ?_); decide +kernel) | ((with_reducible refine awOps_one ?_ ?_); decide +kernel) | (with_reducible refine awOps_feed ?_) | ((with_reducible refine awOps_g ?_); refine awOps_guard rfl ?_) | ((with_reducible refine awT_one ?_ ?_); decide +kernel) | ((with_reducible refine awT_call ?_ ?_); decide +kernel) | ((with_reducible refine awT_g ?_); refine awT_guard rfl ?_) | ((with_reducible refine awU_one ?_ ?_); decide +kernel) | ((with_reducible refine awU_call ?_ ?_); decide +kernel) | ((with_reducible refine awU_g ?_); refine awU_guard rfl ?_) | (with_reducible refine AWp.condH ?_)); intro K Q' hK hQ; simp only [hd, hw, h1, h2, hr, go_sem, Nat.reduceAdd, Nat.reduceSub, Nat.reduceMul, Nat.reduceDiv, Nat.reduceMod, Nat.reduceLT, Nat.reduceLeDiff, Nat.reduceEqDiff, Nat.reduceBEq, Nat.reduceBNe, reduceCtorEq, Int.reduceLE, Int.reduceLT, Int.reduceNeg, Int.reduceToNat, Int.reduceAdd, Int.reduceSub, Int.reduceMul, Int.reduceBEq, Int.reduceBNe, Int.reduceEq]; subst hK hQ)
    | ((with_reducible refine AWp.drawT Try.follows ?_ ?_); decide +kernel) | ((with_reducible refine AWp.drawU Try.follows ?_ ?_); decide +kernel)
    | with_reducible (first | refine awOps_end ?_ | refine awT_end ?_ | refine awU_end ?_ | refine nThen ?_ | refine putKn ?_ | refine nSuf ?_ | refine rThen ?_ | refine eThen ?_ | refine nBlock ?_ | refine eBlock ?_ | refine fBlock (by decide) ?_ | refine rBlock ?_ | refine nScope ?_ | refine eScope ?_ | refine rScope ?_ | refine AWp.seq ?_ | refine AWp.block ?_ | refine AWp.scope ?_ | refine AWp.text ?_ | refine AWp.skip ?_ | refine AWp.exit ?_ | refine AWp.ret ?_ | refine AWp.label ?_ | refine brK_T (by assumption) ?_ | refine brK_F (by assumption) ?_ | refine brK_mk (fun hb => ?_) (fun hb => ?_))
    | ((with_reducible refine And.intro ?_ ?_); focus (first | assumption | omega | (simp only [go_sem, reduceCtorEq]; done)))
    | ((with_reducible (first | refine rBodyZ ?_ | refine nBodyZ ?_ | refine rBodyQ ?_ | refine nBodyQ ?_)); simp only [hd, hw, h1, h2, hr, go_sem, Nat.reduceAdd, Nat.reduceSub, Nat.reduceMul, Nat.reduceDiv, Nat.reduceMod, Nat.reduceLT, Nat.reduceLeDiff, Nat.reduceEqDiff, Nat.reduceBEq, Nat.reduceBNe, reduceCtorEq, Int.reduceLE, Int.reduceLT, Int.reduceNeg, Int.reduceToNat, Int.reduceAdd, Int.reduceSub, Int.reduceMul, Int.reduceBEq, Int.reduceBNe, Int.reduceEq]))
    refine ACalls.use (put (putAll (l.take k)) l[k] (by omega) σ) ?_
    have hsn : putL (putAll (l.take k)) l[k] = putAll (l.take (k + 1)) := by
      rw [show l.take (k + 1) = l.take k ++ [l[k]] by rw [List.take_add_one, List.getElem?_eq_getElem hlt]; rfl, putAll_snoc]
    rw [hsn]
    repeat' (first
    | ((first | ((with_reducible refine awOps_move ?_ ?_); decide +kernel) | ((with_reducible refine awOps_load ?_ ?_); decide +kernel) | ((with_reducible refine awOps_one ?_ ?_); decide +kernel) | (with_reducible refine awOps_feed ?_) | ((with_reducible refine awOps_g ?_); refine awOps_guard rfl ?_) | ((with_reducible refine awT_one ?_ ?_); decide +kernel) | ((with_reducible refine awT_call ?_ ?_); decide +kernel) | ((with_reducible refine awT_g ?_); refine awT_guard rfl ?_) | ((with_reducible refine awU_one ?_ ?_); decide +kernel) | ((with_reducible refine awU_call ?_ ?_); decide +kernel) | ((with_reducible refine awU_g ?_); refine awU_guard rfl ?_) | (with_reducible refine AWp.condH ?_)); intro K Q' hK hQ; simp only [hw, go_sem, Nat.reduceAdd, Nat.reduceSub, Nat.reduceMul, Nat.reduceDiv, Nat.reduceMod, Nat.reduceLT, Nat.reduceLeDiff, Nat.reduceEqDiff, Nat.reduceBEq, Nat.reduceBNe, reduceCtorEq, Int.reduceLE, Int.reduceLT, Int.reduceNeg, Int.reduceToNat, Int.reduceAdd, Int.reduceSub, Int.reduceMul, Int.reduceBEq, Int.reduceBNe, Int.reduceEq]; subst hK hQ)
    | ((with_reducible refine AWp.drawT Try.follows ?_ ?_); decide +kernel) | ((with_reducible refine AWp.drawU Try.follows ?_ ?_); decide +kernel)
    | with_reducible (first | refine awOps_end ?_ | refine awT_end ?_ | refine awU_end ?_ | refine nThen ?_ | refine putKn ?_ | refine nSuf ?_ | refine rThen ?_ | refine eThen ?_ | refine nBlock ?_ | refine eBlock ?_ | refine fBlock (by decide) ?_ | refine rBlock ?_ | refine nScope ?_ | refine eScope ?_ | refine rScope ?_ | refine AWp.seq ?_ | refine AWp.block ?_ | refine AWp.scope ?_ | refine AWp.text ?_ | refine AWp.skip ?_ | refine AWp.exit ?_ | refine AWp.ret ?_ | refine AWp.label ?_ | refine brK_T (by assumption) ?_ | refine brK_F (by assumption) ?_ | refine brK_mk (fun hb => ?_) (fun hb => ?_))
    | ((with_reducible refine And.intro ?_ ?_); focus (first | assumption | omega | (simp only [go_sem, reduceCtorEq]; done)))
    | ((with_reducible (first | refine rBodyZ ?_ | refine nBodyZ ?_ | refine rBodyQ ?_ | refine nBodyQ ?_)); simp only [hw, go_sem, Nat.reduceAdd, Nat.reduceSub, Nat.reduceMul, Nat.reduceDiv, Nat.reduceMod, Nat.reduceLT, Nat.reduceLeDiff, Nat.reduceEqDiff, Nat.reduceBEq, Nat.reduceBNe, reduceCtorEq, Int.reduceLE, Int.reduceLT, Int.reduceNeg, Int.reduceToNat, Int.reduceAdd, Int.reduceSub, Int.reduceMul, Int.reduceBEq, Int.reduceBNe, Int.reduceEq]))
    exact ⟨k + 1, by omega, by simp only; omega, by simp only [hw, go_sem, Nat.reduceAdd, Nat.reduceSub, Nat.reduceMul, Nat.reduceDiv, Nat.reduceMod, Nat.reduceLT, Nat.reduceLeDiff, Nat.reduceEqDiff, Nat.reduceBEq, Nat.reduceBNe, reduceCtorEq, Int.reduceLE, Int.reduceLT, Int.reduceNeg, Int.reduceToNat, Int.reduceAdd, Int.reduceSub, Int.reduceMul, Int.reduceBEq, Int.reduceBNe, Int.reduceEq], WeakS.refl _⟩
  have hd : decide ((k : Int) < (l.length : Int)) = false := by simp; omega
  have hkl : k = l.length := by omega
  subst hkl
  have hpl := putAll_len l l.length (Nat.le_refl _)
  rw [List.take_length] at *
  generalize putAll l = M at *
  repeat' (first
    | ((first | ((with_reducible refine awOps_move ?_ ?_); decide +kernel) | ((with_reducible refine awOps_load ?_ ?_); decide +kernel) | ((with_reducible refine awOps_one ?_ ?_); decide +kernel) | (with_reducible refine awOps_feed ?_) | ((with_reducible refine awOps_g ?_); refine awOps_guard rfl ?_) | ((with_reducible refine awT_one ?_ ?_); decide +kernel) | ((with_reducible refine awT_call ?_ ?_); decide +kernel) | ((with_reducible refine awT_g ?_); refine awT_guard rfl ?_) | ((with_reducible refine awU_one ?_ ?_); decide +kernel) | ((with_reducible refine awU_call ?_ ?_); decide +kernel) | ((with_reducible refine awU_g ?_); refine awU_guard rfl ?_) | (with_reducible refine AWp.condH ?_)); intro K Q' hK hQ; simp only [hd, go_sem, Nat.reduceAdd, Nat.reduceSub, Nat.reduceMul, Nat.reduceDiv, Nat.reduceMod, Nat.reduceLT, Nat.reduceLeDiff, Nat.reduceEqDiff, Nat.reduceBEq, Nat.reduceBNe, reduceCtorEq, Int.reduceLE, Int.reduceLT, Int.reduceNeg, Int.reduceToNat, Int.reduceAdd, Int.reduceSub, Int.reduceMul, Int.reduceBEq, Int.reduceBNe, Int.reduceEq]; subst hK hQ)
    | ((with_reducible refine AWp.drawT Try.follows ?_ ?_); decide +kernel) | ((with_reducible refine AWp.drawU Try.follows ?_ ?_); decide +kernel)
    | with_reducible (first | refine awOps_end ?_ | refine awT_end ?_ | refine awU_end ?_ | refine nThen ?_ | refine putKn ?_ | refine nSuf ?_ | refine rThen ?_ | refine eThen ?_ | refine nBlock ?_ | refine eBlock ?_ | refine fBlock (by decide) ?_ | refine rBlock ?_ | refine nScope ?_ | refine eScope ?_ | refine rScope ?_ | refine AWp.seq ?_ | refine AWp.block ?_ | refine AWp.scope ?_ | refine AWp.text ?_ | refine AWp.skip ?_ | refine AWp.exit ?_ | refine AWp.ret ?_ | refine AWp.label ?_ | refine brK_T (by assumption) ?_ | refine brK_F (by assumption) ?_ | refine brK_mk (fun hb => ?_) (fun hb => ?_))
    | ((with_reducible refine And.intro ?_ ?_); focus (first | assumption | omega | (simp only [go_sem, reduceCtorEq]; done)))
    | ((with_reducible (first | refine rBodyZ ?_ | refine nBodyZ ?_ | refine rBodyQ ?_ | refine nBodyQ ?_)); simp only [hd, go_sem, Nat.reduceAdd, Nat.reduceSub, Nat.reduceMul, Nat.reduceDiv, Nat.reduceMod, Nat.reduceLT, Nat.reduceLeDiff, Nat.reduceEqDiff, Nat.reduceBEq, Nat.reduceBNe, reduceCtorEq, Int.reduceLE, Int.reduceLT, Int.reduceNeg, Int.reduceToNat, Int.reduceAdd, Int.reduceSub, Int.reduceMul, Int.reduceBEq, Int.reduceBNe, Int.reduceEq]))
  refine AWp.loop (α := Unit) (fun _ => True) (fun _ => 0) (fun _ => mkE 54 [(1, .sl .nil 0 []), (5, .sl .no M.length (encRs M)), (7, .i .i64 0)]) (fun _ => σ) () trivial ?_ ?_ ?_
  · simp only [go_sem, Nat.reduceAdd, Nat.reduceSub, Nat.reduceMul, Nat.reduceDiv, Nat.reduceMod, Nat.reduceLT, Nat.reduceLeDiff, Nat.reduceEqDiff, Nat.reduceBEq, Nat.reduceBNe, reduceCtorEq, Int.reduceLE, Int.reduceLT, Int.reduceNeg, Int.reduceToNat, Int.reduceAdd, Int.reduceSub, Int.reduceMul, Int.reduceBEq, Int.reduceBNe, Int.reduceEq]
  · exact WeakS.refl _
  intro _ _
  have hz : decide ((0 : Int) < ((0 : Nat) : Int)) = false := by simp
  repeat' (first
    | ((first | ((with_reducible refine awOps_move ?_ ?_); decide +kernel) | ((with_reducible refine awOps_load ?_ ?_); decide +kernel) | ((with_reducible refine awOps_one ?_ ?_); decide +kernel) | (with_reducible refine awOps_feed ?_) | ((with_reducible refine awOps_g ?_); refine awOps_guard rfl ?_) | ((with_reducible refine awT_one ?_ ?_); decide +kernel) | ((with_reducible refine awT_call ?_ ?_); decide +kernel) | ((with_reducible refine awT_g ?_); refine awT_guard rfl ?_) | ((with_reducible refine awU_one ?_ ?_); decide +kernel) | ((with_reducible refine awU_call ?_ ?_); decide +kernel) | ((with_reducible refine awU_g ?_); refine awU_guard rfl ?_) | (with_reducible refine AWp.condH ?_)); intro K Q' hK hQ; simp only [hz, cnil, go_sem, Nat.reduceAdd, Nat.reduceSub, Nat.reduceMul, Nat.reduceDiv, Nat.reduceMod, Nat.reduceLT, Nat.reduceLeDiff, Nat.reduceEqDiff, Nat.reduceBEq, Nat.reduceBNe, reduceCtorEq, Int.reduceLE, Int.reduceLT, Int.reduceNeg, Int.reduceToNat, Int.reduceAdd, Int.reduceSub, Int.reduceMul, Int.reduceBEq, Int.reduceBNe, Int.reduceEq]; subst hK hQ)
    | ((with_reducible refine AWp.drawT Try.follows ?_ ?_); decide +kernel) | ((with_reducible refine AWp.drawU Try.follows ?_ ?_); decide +kernel)
    | with_reducible (first | refine awOps_end ?_ | refine awT_end ?_ | refine awU_end ?_ | refine nThen ?_ | refine putKn ?_ | refine nSuf ?_ | refine rThen ?_ | refine eThen ?_ | refine nBlock ?_ | refine eBlock ?_ | refine fBlock (by decide) ?_ | refine rBlock ?_ | refine nScope ?_ | refine eScope ?_ | refine rScope ?_ | refine AWp.seq ?_ | refine AWp.block ?_ | refine AWp.scope ?_ | refine AWp.text ?_ | refine AWp.skip ?_ | refine AWp.exit ?_ | refine AWp.ret ?_ | refine AWp.label ?_ | refine brK_T (by assumption) ?_ | refine brK_F (by assumption) ?_ | refine brK_mk (fun hb => ?_) (fun hb => ?_))
    | ((with_reducible refine And.intro ?_ ?_); focus (first | assumption | omega | (simp only [go_sem, reduceCtorEq]; done)))
    | ((with_reducible (first | refine rBodyZ ?_ | refine nBodyZ ?_ | refine rBodyQ ?_ | refine nBodyQ ?_)); simp only [hz, cnil, go_sem, Nat.reduceAdd, Nat.reduceSub, Nat.reduceMul, Nat.reduceDiv, Nat.reduceMod, Nat.reduceLT, Nat.reduceLeDiff, Nat.reduceEqDiff, Nat.reduceBEq, Nat.reduceBNe, reduceCtorEq, Int.reduceLE, Int.reduceLT, Int.reduceNeg, Int.reduceToNat, Int.reduceAdd, Int.reduceSub, Int.reduceMul, Int.reduceBEq, Int.reduceBNe, Int.reduceEq]))
  refine AWp.loop (α := Nat) (fun k => k ≤ M.length) (fun k => M.length - k) (fun k => mkE 54 [(5, .sl .no M.length (encRs M)), (8, oV 2 (noEmpty (M.take k)).length (encRs (noEmpty (M.take k)))), (9, .i .i64 k)]) (fun _ => σ) 0 (Nat.zero_le _) ?_ ?_ ?_
  · simp only [Int.natCast_zero, noEmpty, List.take_zero, List.filter_nil, List.length_nil, oV0, go_sem, Nat.reduceAdd, Nat.reduceSub, Nat.reduceMul, Nat.reduceDiv, Nat.reduceMod, Nat.reduceLT, Nat.reduceLeDiff, Nat.reduceEqDiff, Nat.reduceBEq, Nat.reduceBNe, reduceCtorEq, Int.reduceLE, Int.reduceLT, Int.reduceNeg, Int.reduceToNat, Int.reduceAdd, Int.reduceSub, Int.reduceMul, Int.reduceBEq, Int.reduceBNe, Int.reduceEq]
  · exact WeakS.refl _
  intro k hk
  by_cases hlt : k < M.length
  · have hd : decide ((k : Int) < (M.length : Int)) = true := by simp; omega
    have hw := wrapS (k := k) (by omega)
    obtain ⟨h1, h2⟩ := encRs_get M k M[k] (List.getElem?_eq_getElem hlt)
    have hr : (0 : Int) ≤ (k : Int) ∧ (k : Int) < (M.length : Int) := by omega
    have htk : M.take (k + 1) = M.take k ++ [M[k]] := by rw [List.take_add_one, List.getElem?_eq_getElem hlt]; rfl
    have hfl : (noEmpty (M.take k)).length ≤ k := Nat.le_trans (List.length_filter_le _ _) (by simp; omega)
    by_cases hx0 : M[k].2 = []
    · have hb0 : (M[k].2 == []) = true := by simp [hx0]
      have hsn : noEmpty (M.take (k + 1)) = noEmpty (M.take k) := by rw [htk]; simp only [noEmpty, List.filter_append]; rw [List.filter_cons_of_neg (by simp [hx0])]; simp only [List.filter_nil, List.append_nil]
      repeat' (first
    | ((first | ((with_reducible refine awOps_move ?_ ?_); decide +kernel) | ((with_reducible refine awOps_load ?_ ?_); decide +kernel) | ((with_reducible refine awOps_one ?_ ?_); decide +kernel) | (with_reducible refine awOps_feed ?_) | ((with_reducible refine awOps_g ?_); refine awOps_guard rfl ?_) | ((with_reducible refine awT_one ?_ ?_); decide +kernel) | ((with_reducible refine awT_call ?_ ?_); decide +kernel) | ((with_reducible refine awT_g ?_); refine awT_guard rfl ?_) | ((with_reducible refine awU_one ?_ ?_); decide +kernel) | ((with_reducible refine awU_call ?_ ?_); decide +kernel) | ((with_reducible refine awU_g ?_); refine awU_guard rfl ?_) | (with_reducible refine AWp.condH ?_)); intro K Q' hK hQ; simp only [hd, hw, h1, h2, hr, hb0, bne, go_sem, Nat.reduceAdd, Nat.reduceSub, Nat.reduceMul, Nat.reduceDiv, Nat.reduceMod, Nat.reduceLT, Nat.reduceLeDiff, Nat.reduceEqDiff, Nat.reduceBEq, Nat.reduceBNe, reduceCtorEq, Int.reduceLE, Int.reduceLT, Int.reduceNeg, Int.reduceToNat, Int.reduceAdd, Int.reduceSub, Int.reduceMul, Int.reduceBEq, Int.reduceBNe, Int.reduceEq]; subst hK hQ)
    | ((with_reducible refine AWp.drawT Try.follows ?_ ?_); decide +kernel) | ((with_reducible refine AWp.drawU Try.follows ?_ ?_); decide +kernel)
    | with_reducible (first | refine awOps_end ?_ | refine awT_end ?_ | refine awU_end ?_ | refine nThen ?_ | refine putKn ?_ | refine nSuf ?_ | refine rThen ?_ | refine eThen ?_ | refine nBlock ?_ | refine eBlock ?_ | refine fBlock (by decide) ?_ | refine rBlock ?_ | refine nScope ?_ | refine eScope ?_ | refine rScope ?_ | refine AWp.seq ?_ | refine AWp.block ?_ | refine AWp.scope ?_ | refine AWp.text ?_ | refine AWp.skip ?_ | refine AWp.exit ?_ | refine AWp.ret ?_ | refine AWp.label ?_ | refine brK_T (by assumption) ?_ | refine brK_F (by assumption) ?_ | refine brK_mk (fun hb => ?_) (fun hb => ?_))
    | ((with_reducible refine And.intro ?_ ?_); focus (first | assumption | omega | (simp only [go_sem, reduceCtorEq]; done)))
    | ((with_reducible (first | refine rBodyZ ?_ | refine nBodyZ ?_ | refine rBodyQ ?_ | refine nBodyQ ?_)); simp only [hd, hw, h1, h2, hr, hb0, bne, go_sem, Nat.reduceAdd, Nat.reduceSub, Nat.reduceMul, Nat.reduceDiv, Nat.reduceMod, Nat.reduceLT, Nat.reduceLeDiff, Nat.reduceEqDiff, Nat.reduceBEq, Nat.reduceBNe, reduceCtorEq, Int.reduceLE, Int.reduceLT, Int.reduceNeg, Int.reduceToNat, Int.reduceAdd, Int.reduceSub, Int.reduceMul, Int.reduceBEq, Int.reduceBNe, Int.reduceEq]))
      exact ⟨k + 1, by omega, by simp only; omega, by simp only [hw, hsn, go_sem, Nat.reduceAdd, Nat.reduceSub, Nat.reduceMul, Nat.reduceDiv, Nat.reduceMod, Nat.reduceLT, Nat.reduceLeDiff, Nat.reduceEqDiff, Nat.reduceBEq, Nat.reduceBNe, reduceCtorEq, Int.reduceLE, Int.reduceLT, Int.reduceNeg, Int.reduceToNat, Int.reduceAdd, Int.reduceSub, Int.reduceMul, Int.reduceBEq, Int.reduceBNe, Int.reduceEq], WeakS.refl _⟩
    · have hb0 : (M[k].2 == []) = false := by simp [hx0]
      have hsn : noEmpty (M.take (k + 1)) = noEmpty (M.take k) ++ [M[k]] := by rw [htk]; simp only [noEmpty, List.filter_append]; rw [List.filter_cons_of_pos (by simp [hx0])]; simp only [List.filter_nil]
      repeat' (first
    | ((first | ((with_reducible refine awOps_move ?_ ?_); decide +kernel) | ((with_reducible refine awOps_load ?_ ?_); decide +kernel) | ((with_reducible refine awOps_one ?_ ?_); decide +kernel) | (with_reducible refine awOps_feed ?_) | ((with_reducible refine awOps_g ?_); refine awOps_guard rfl ?_) | ((with_reducible refine awT_one ?_ ?_); decide +kernel) | ((with_reducible refine awT_call ?_ ?_); decide +kernel) | ((with_reducible refine awT_g ?_); refine awT_guard rfl ?_) | ((with_reducible refine awU_one ?_ ?_); decide +kernel) | ((with_reducible refine awU_call ?_ ?_); decide +kernel) | ((with_reducible refine awU_g ?_); refine awU_guard rfl ?_) | (with_reducible refine AWp.condH ?_)); intro K Q' hK hQ; simp only [hd, hw, h1, h2, hr, hb0, bne, go_sem, Nat.reduceAdd, Nat.reduceSub, Nat.reduceMul, Nat.reduceDiv, Nat.reduceMod, Nat.reduceLT, Nat.reduceLeDiff, Nat.reduceEqDiff, Nat.reduceBEq, Nat.reduceBNe, reduceCtorEq, Int.reduceLE, Int.reduceLT, Int.reduceNeg, Int.reduceToNat, Int.reduceAdd, Int.reduceSub, Int.reduceMul, Int.reduceBEq, Int.reduceBNe, Int.reduceEq]; subst hK hQ)
    | ((with_reducible refine AWp.drawT Try.follows ?_ ?_); decide +kernel) | ((with_reducible refine AWp.drawU Try.follows ?_ ?_); decide +kernel)
    | with_reducible (first | refine awOps_end ?_ | refine awT_end ?_ | refine awU_end ?_ | refine nThen ?_ | refine putKn ?_ | refine nSuf ?_ | refine rThen ?_ | refine eThen ?_ | refine nBlock ?_ | refine eBlock ?_ | refine fBlock (by decide) ?_ | refine rBlock ?_ | refine nScope ?_ | refine eScope ?_ | refine rScope ?_ | refine AWp.seq ?_ | refine AWp.block ?_ | refine AWp.scope ?_ | refine AWp.text ?_ | refine AWp.skip ?_ | refine AWp.exit ?_ | refine AWp.ret ?_ | refine AWp.label ?_ | refine brK_T (by assumption) ?_ | refine brK_F (by assumption) ?_ | refine brK_mk (fun hb => ?_) (fun hb => ?_))
    | ((with_reducible refine And.intro ?_ ?_); focus (first | assumption | omega | (simp only [go_sem, reduceCtorEq]; done)))
    | ((with_reducible (first | refine rBodyZ ?_ | refine nBodyZ ?_ | refine rBodyQ ?_ | refine nBodyQ ?_)); simp only [hd, hw, h1, h2, hr, hb0, bne, go_sem, Nat.reduceAdd, Nat.reduceSub, Nat.reduceMul, Nat.reduceDiv, Nat.reduceMod, Nat.reduceLT, Nat.reduceLeDiff, Nat.reduceEqDiff, Nat.reduceBEq, Nat.reduceBNe, reduceCtorEq, Int.reduceLE, Int.reduceLT, Int.reduceNeg, Int.reduceToNat, Int.reduceAdd, Int.reduceSub, Int.reduceMul, Int.reduceBEq, Int.reduceBNe, Int.reduceEq]))
      refine appC.o ?_
      simp only [aappendO, asrc, go_sem, Nat.reduceAdd, Nat.reduceSub, Nat.reduceMul, Nat.reduceDiv, Nat.reduceMod, Nat.reduceLT, Nat.reduceLeDiff, Nat.reduceEqDiff, Nat.reduceBEq, Nat.reduceBNe, reduceCtorEq, Int.reduceLE, Int.reduceLT, Int.reduceNeg, Int.reduceToNat, Int.reduceAdd, Int.reduceSub, Int.reduceMul, Int.reduceBEq, Int.reduceBNe, Int.reduceEq]
      have hln : (noEmpty (M.take (k + 1))).length = (noEmpty (M.take k)).length + 1 := by rw [hsn]; simp
      have hen : encRs (noEmpty (M.take (k + 1))) = encRs (noEmpty (M.take k)) ++ [.s M[k].1, .s M[k].2] := by rw [hsn, encRs_app]; rfl
      refine appO_oV (by rw [encRs_len]; omega) (by omega) (by simp) (by rfl) (by omega) (by omega) (by omega) (by rfl) ?_
      rw [← hln, ← hen]
      repeat' (first
    | ((first | ((with_reducible refine awOps_move ?_ ?_); decide +kernel) | ((with_reducible refine awOps_load ?_ ?_); decide +kernel) | ((with_reducible refine awOps_one ?_ ?_); decide +kernel) | (with_reducible refine awOps_feed ?_) | ((with_reducible refine awOps_g ?_); refine awOps_guard rfl ?_) | ((with_reducible refine awT_one ?_ ?_); decide +kernel) | ((with_reducible refine awT_call ?_ ?_); decide +kernel) | ((with_reducible refine awT_g ?_); refine awT_guard rfl ?_) | ((with_reducible refine awU_one ?_ ?_); decide +kernel) | ((with_reducible refine awU_call ?_ ?_); decide +kernel) | ((with_reducible refine awU_g ?_); refine awU_guard rfl ?_) | (with_reducible refine AWp.condH ?_)); intro K Q' hK hQ; simp only [hw, go_sem, Nat.reduceAdd, Nat.reduceSub, Nat.reduceMul, Nat.reduceDiv, Nat.reduceMod, Nat.reduceLT, Nat.reduceLeDiff, Nat.reduceEqDiff, Nat.reduceBEq, Nat.reduceBNe, reduceCtorEq, Int.reduceLE, Int.reduceLT, Int.reduceNeg, Int.reduceToNat, Int.reduceAdd, Int.reduceSub, Int.reduceMul, Int.reduceBEq, Int.reduceBNe, Int.reduceEq]; subst hK hQ)
    | ((with_reducible refine AWp.drawT Try.follows ?_ ?_); decide +kernel) | ((with_reducible refine AWp.drawU Try.follows ?_ ?_); decide +kernel)
    | with_reducible (first | refine awOps_end ?_ | refine awT_end ?_ | refine awU_end ?_ | refine nThen ?_ | refine putKn ?_ | refine nSuf ?_ | refine rThen ?_ | refine eThen ?_ | refine nBlock ?_ | refine eBlock ?_ | refine fBlock (by decide) ?_ | refine rBlock ?_ | refine nScope ?_ | refine eScope ?_ | refine rScope ?_ | refine AWp.seq ?_ | refine AWp.block ?_ | refine AWp.scope ?_ | refine AWp.text ?_ | refine AWp.skip ?_ | refine AWp.exit ?_ | refine AWp.ret ?_ | refine AWp.label ?_ | refine brK_T (by assumption) ?_ | refine brK_F (by assumption) ?_ | refine brK_mk (fun hb => ?_) (fun hb => ?_))
    | ((with_reducible refine And.intro ?_ ?_); focus (first | assumption | omega | (simp only [go_sem, reduceCtorEq]; done)))
    | ((with_reducible (first | refine rBodyZ ?_ | refine nBodyZ ?_ | refine rBodyQ ?_ | refine nBodyQ ?_)); simp only [hw, go_sem, Nat.reduceAdd, Nat.reduceSub, Nat.reduceMul, Nat.reduceDiv, Nat.reduceMod, Nat.reduceLT, Nat.reduceLeDiff, Nat.reduceEqDiff, Nat.reduceBEq, Nat.reduceBNe, reduceCtorEq, Int.reduceLE, Int.reduceLT, Int.reduceNeg, Int.reduceToNat, Int.reduceAdd, Int.reduceSub, Int.reduceMul, Int.reduceBEq, Int.reduceBNe, Int.reduceEq]))
      exact ⟨k + 1, by omega, by simp only; omega, by simp only [hw, go_sem, Nat.reduceAdd, Nat.reduceSub, Nat.reduceMul, Nat.reduceDiv, Nat.reduceMod, Nat.reduceLT, Nat.reduceLeDiff, Nat.reduceEqDiff, Nat.reduceBEq, Nat.reduceBNe, reduceCtorEq, Int.reduceLE, Int.reduceLT, Int.reduceNeg, Int.reduceToNat, Int.reduceAdd, Int.reduceSub, Int.reduceMul, Int.reduceBEq, Int.reduceBNe, Int.reduceEq], WeakS.refl _⟩
  · have hd : decide ((k : Int) < (M.length : Int)) = false := by simp; omega
    have hkl : k = M.length := by omega
    subst hkl
    rw [List.take_length] at *
    have hpn : AV.pn (oV 2 (noEmpty M).length (encRs (noEmpty M))) = vN (noEmpty M).length (encRs (noEmpty M)) := by cases (noEmpty M).length <;> rfl
    obtain ⟨o, ho⟩ := vN_sl (noEmpty M)
    rw [ho] at hpn ⊢
    repeat' (first
    | ((first | ((with_reducible refine awOps_move ?_ ?_); decide +kernel) | ((with_reducible refine awOps_load ?_ ?_); decide +kernel) | ((with_reducible refine awOps_one ?_ ?_); decide +kernel) | (with_reducible refine awOps_feed ?_) | ((with_reducible refine awOps_g ?_); refine awOps_guard rfl ?_) | ((with_reducible refine awT_one ?_ ?_); decide +kernel) | ((with_reducible refine awT_call ?_ ?_); decide +kernel) | ((with_reducible refine awT_g ?_); refine awT_guard rfl ?_) | ((with_reducible refine awU_one ?_ ?_); decide +kernel) | ((with_reducible refine awU_call ?_ ?_); decide +kernel) | ((with_reducible refine awU_g ?_); refine awU_guard rfl ?_) | (with_reducible refine AWp.condH ?_)); intro K Q' hK hQ; simp only [hd, hpn, go_sem, Nat.reduceAdd, Nat.reduceSub, Nat.reduceMul, Nat.reduceDiv, Nat.reduceMod, Nat.reduceLT, Nat.reduceLeDiff, Nat.reduceEqDiff, Nat.reduceBEq, Nat.reduceBNe, reduceCtorEq, Int.reduceLE, Int.reduceLT, Int.reduceNeg, Int.reduceToNat, Int.reduceAdd, Int.reduceSub, Int.reduceMul, Int.reduceBEq, Int.reduceBNe, Int.reduceEq]; subst hK hQ)
    | ((with_reducible refine AWp.drawT Try.follows ?_ ?_); decide +kernel) | ((with_reducible refine AWp.drawU Try.follows ?_ ?_); decide +kernel)
    | with_reducible (first | refine awOps_end ?_ | refine awT_end ?_ | refine awU_end ?_ | refine nThen ?_ | refine putKn ?_ | refine nSuf ?_ | refine rThen ?_ | refine eThen ?_ | refine nBlock ?_ | refine eBlock ?_ | refine fBlock (by decide) ?_ | refine rBlock ?_ | refine nScope ?_ | refine eScope ?_ | refine rScope ?_ | refine AWp.seq ?_ | refine AWp.block ?_ | refine AWp.scope ?_ | refine AWp.text ?_ | refine AWp.skip ?_ | refine AWp.exit ?_ | refine AWp.ret ?_ | refine AWp.label ?_ | refine brK_T (by assumption) ?_ | refine brK_F (by assumption) ?_ | refine brK_mk (fun hb => ?_) (fun hb => ?_))
    | ((with_reducible refine And.intro ?_ ?_); focus (first | assumption | omega | (simp only [go_sem, reduceCtorEq]; done)))
    | ((with_reducible (first | refine rBodyZ ?_ | refine nBodyZ ?_ | refine rBodyQ ?_ | refine nBodyQ ?_)); simp only [hd, hpn, go_sem, Nat.reduceAdd, Nat.reduceSub, Nat.reduceMul, Nat.reduceDiv, Nat.reduceMod, Nat.reduceLT, Nat.reduceLeDiff, Nat.reduceEqDiff, Nat.reduceBEq, Nat.reduceBNe, reduceCtorEq, Int.reduceLE, Int.reduceLT, Int.reduceNeg, Int.reduceToNat, Int.reduceAdd, Int.reduceSub, Int.reduceMul, Int.reduceBEq, Int.reduceBNe, Int.reduceEq]))
    exact ⟨cleanRs _ _, rfl, rfl⟩
end Go.Proofs.Ytoofpdmdgofdcaa.L

namespace Go.Proofs.Ytoofpdmdgofdcaa.L
open Go Go.RowKit Go.Proofs.Ytoofpdmdgofdcaa.E
set_option linter.unusedVariables false
set_option linter.unusedSimpArgs false
/-- By rising keys. -/
abbrev SL (l : List PRec) : Prop := l.Pairwise fun a b => a.1 < b.1
theorem putL_nil (r : PRec) : putL [] r = [r] := rfl
theorem putL_cons (a : PRec) (l : List PRec) (r : PRec) : putL (a :: l) r = if a.1 < r.1 then a :: putL l r else if a.1 = r.1 then r :: l else r :: a :: l := by
  by_cases h : a.1 < r.1
  · rw [if_pos h]
    simp only [putL, ahead, if_pos h, List.take_succ_cons, List.drop_succ_cons, List.cons_append]
  · rw [if_neg h]
    simp only [putL, ahead, if_neg h, List.take_zero, List.drop_zero, List.nil_append, List.cons_append]
    split <;> rfl
theorem lt_of_not {a b : List UInt8} (h : ¬ a < b) (hne : a ≠ b) : b < a := by
  by_cases h2 : b < a
  · exact h2
  · exact absurd (List.le_antisymm (List.not_lt.1 h2) (List.not_lt.1 h)) hne
theorem putL_mem {x : PRec} : ∀ {l : List PRec} {r : PRec}, x ∈ putL l r → x ∈ l ∨ x = r
  | [], r, h => by simp [putL_nil] at h; exact .inr h
  | a :: l, r, h => by
    rw [putL_cons] at h
    split at h
    · rcases List.mem_cons.1 h with rfl | h
      · exact .inl (by simp)
      · rcases putL_mem h with h | h
        · exact .inl (by simp [h])
        · exact .inr h
    · split at h
      · rcases List.mem_cons.1 h with rfl | h
        · exact .inr rfl
        · exact .inl (by simp [h])
      · rcases List.mem_cons.1 h with rfl | h
        · exact .inr rfl
        · exact .inl h
theorem SL_put : ∀ {l : List PRec} {r : PRec}, SL l → SL (putL l r)
  | [], r, _ => by simp [putL_nil]
  | a :: l, r, h => by
    obtain ⟨h1, h2⟩ := List.pairwise_cons.1 h
    rw [putL_cons]
    split
    · rename_i ha
      refine List.pairwise_cons.2 ⟨fun x hx => ?_, SL_put h2⟩
      rcases putL_mem hx with hx | rfl
      · exact h1 x hx
      · exact ha
    · rename_i ha
      split
      · rename_i he
        exact List.pairwise_cons.2 ⟨fun x hx => by rw [← he]; exact h1 x hx, h2⟩
      · rename_i he
        have hlt := lt_of_not ha he
        refine List.pairwise_cons.2 ⟨fun x hx => ?_, h⟩
        rcases List.mem_cons.1 hx with rfl | hx
        · exact hlt
        · exact List.lt_trans hlt (h1 x hx)
theorem look_none {k : List UInt8} : ∀ {l : List PRec}, (∀ x ∈ l, k < x.1) → lookM k l = none
  | [], _ => rfl
  | a :: l, h => by
    simp only [lookM]
    rw [if_neg (fun e => by have := h a (by simp); rw [← e] at this; exact List.lt_irrefl _ this)]
    exact look_none fun x hx => h x (by simp [hx])
theorem look_put (k : List UInt8) : ∀ {l : List PRec} {r : PRec}, SL l → lookM k (putL l r) = if k = r.1 then some r.2 else lookM k l
  | [], r, _ => by simp [putL_nil, lookM]
  | a :: l, r, h => by
    obtain ⟨h1, h2⟩ := List.pairwise_cons.1 h
    rw [putL_cons]
    split
    · rename_i ha
      simp only [lookM, look_put k h2]
      by_cases hk : k = a.1
      · rw [if_pos hk, if_pos hk, if_neg (fun e => by rw [← hk, e] at ha; exact List.lt_irrefl _ ha)]
      · rw [if_neg hk, if_neg hk]
    · split
      · rename_i he
        simp only [lookM, he]
        split <;> rfl
      · simp only [lookM]
theorem SL_all (l : List PRec) : SL (putAll l) ∧ ∀ k, lookM k (putAll l) = lastOf l k := by
  have : ∀ (n : Nat) (l : List PRec), l.length = n → SL (putAll l) ∧ ∀ k, lookM k (putAll l) = lastOf l k := by
    intro n
    induction n with
    | zero => intro l hl; rw [List.eq_nil_of_length_eq_zero hl]; exact ⟨List.Pairwise.nil, fun _ => rfl⟩
    | succ n ih =>
      intro l hl
      have hne : l ≠ [] := fun e => by subst e; simp at hl
      obtain ⟨h1, h2⟩ := ih l.dropLast (by simp [hl])
      rw [← List.dropLast_concat_getLast hne, putAll_snoc]
      refine ⟨SL_put h1, fun k => ?_⟩
      rw [look_put k h1, h2]
      simp only [lastOf, List.reverse_append, List.reverse_cons, List.reverse_nil, List.nil_append, List.singleton_append, lookM]
  exact this _ l rfl
theorem look_mem_iff {k v : List UInt8} : ∀ {l : List PRec}, (l.map (·.1)).Nodup → ((k, v) ∈ l ↔ lookM k l = some v)
  | [], _ => by simp [lookM]
  | a :: l, h => by
    simp only [List.map_cons, List.nodup_cons] at h
    simp only [List.mem_cons, lookM]
    by_cases hk : k = a.1
    · rw [if_pos hk]
      constructor
      · rintro (e | e)
        · rw [← e]
        · exact absurd (List.mem_map.2 ⟨_, e, hk⟩) h.1
      · intro e
        left
        obtain ⟨a1, a2⟩ := a
        simp at hk e
        rw [hk, e]
    · rw [if_neg hk, ← look_mem_iff h.2]
      constructor
      · rintro (e | e)
        · exact absurd (by rw [← e]) hk
        · exact e
      · exact .inr
theorem SL_nodup {l : List PRec} (h : SL l) : (l.map (·.1)).Nodup := by
  refine List.pairwise_map.2 (h.imp fun {a b} hab e => ?_)
  rw [e] at hab
  exact List.lt_irrefl _ hab
theorem refIsMerge (l : List PRec) : IsMerge l (noEmpty (putAll l)) := by
  obtain ⟨h1, h2⟩ := SL_all l
  have hs : (noEmpty (putAll l)).Sublist (putAll l) := List.filter_sublist
  refine ⟨(h1.sublist hs).imp fun h => List.le_of_lt h, SL_nodup (h1.sublist hs), fun k v => ?_⟩
  rw [← h2, ← look_mem_iff (SL_nodup h1)]
  simp [noEmpty]
theorem isMerge_uniq {l L M : List PRec} (h : IsMerge l L) (h' : IsMerge l M) : L = M := by
  have nd : ∀ {L : List PRec}, (L.map (·.1)).Nodup → L.Nodup := fun {L} hn => (List.pairwise_map.1 hn).imp fun hne e => hne (by rw [e])
  refine List.Perm.eq_of_pairwise (le := fun a b : PRec => a.1 ≤ b.1) (fun a b ha hb h1 h2 => ?_) h.sorted h'.sorted ((List.perm_ext_iff_of_nodup (nd h.nodup) (nd h'.nodup)).2 fun ⟨k, v⟩ => by rw [h.mem, h'.mem])
  have hk : a.1 = b.1 := List.le_antisymm h1 h2
  obtain ⟨a1, a2⟩ := a
  obtain ⟨b1, b2⟩ := b
  have e1 := ((h.mem a1 a2).1 ha).1
  have e2 := ((h'.mem b1 b2).1 hb).1
  simp at hk
  subst hk
  rw [e1] at e2
  cases e2
  rfl
/-- What is found of a key in what was merged. -/
theorem last_merge {l L : List PRec} (h : IsMerge l L) (k : List UInt8) : lastOf L k = match lastOf l k with | some v => if v = [] then none else some v | none => none := by
  have hr : ((L.reverse).map (·.1)).Nodup := by rw [List.map_reverse]; exact List.pairwise_reverse.2 (h.nodup.imp fun hne => Ne.symm hne)
  have key : ∀ v, lastOf L k = some v ↔ lastOf l k = some v ∧ v ≠ [] := fun v => by
    rw [← h.mem, lastOf, ← look_mem_iff hr, List.mem_reverse]
  cases e : lastOf L k with
  | some v =>
    obtain ⟨h1, h2⟩ := (key v).1 e
    rw [h1]
    simp [h2]
  | none =>
    cases e2 : lastOf l k with
    | none => rfl
    | some v =>
      by_cases hv : v = []
      · simp [hv]
      · have := (key v).2 ⟨e2, hv⟩
        rw [e] at this
        cases this
end Go.Proofs.Ytoofpdmdgofdcaa.L

namespace Go.Proofs.Ytoofpdmdgofdcaa.L
open Go Go.RowKit Go.Proofs.Ytoofpdmdgofdcaa.E
set_option linter.unusedVariables false
set_option linter.unusedSimpArgs false
set_option maxRecDepth 10000
set_option maxHeartbeats 1000000
/-- What is found, and whether. -/
def findV (o : Option (List UInt8)) : AV := .tup [.s (o.getD []), .b o.isSome]
theorem last_take (l : List PRec) (x : List UInt8) (k : Nat) (h : k < l.length) : lastOf (l.take (k + 1)) x = if x = l[k].1 then some l[k].2 else lastOf (l.take k) x := by
  rw [show l.take (k + 1) = l.take k ++ [l[k]] by rw [List.take_add_one, List.getElem?_eq_getElem h]; rfl]
  simp only [lastOf, List.reverse_append, List.reverse_cons, List.reverse_nil, List.nil_append, List.singleton_append, lookM]
theorem refFind (l : List PRec) (x : List UInt8) (hl : l.length ≤ 1099511627776) (σ : AState) :
    ACalls Try.prog G0 32 [.sl .no l.length (encRs l), .s x] σ (retIs (findV (lastOf l x)) σ) := by
  refine ACalls.bodyZ G0_pl Try.func32 rfl (by rfl) (by decide) ?_; simp only [Try.ntmps32, List.replicate, go_sem, Nat.reduceAdd, Nat.reduceSub]
  have hw0 : IntKind.i64.wrap ((l.length : Int) - 1) = (l.length : Int) - 1 := by rw [wrap_i64 (by omega) (by omega)]
  repeat' (first
    | ((first | ((with_reducible refine awOps_move ?_ ?_); decide +kernel) | ((with_reducible refine awOps_load ?_ ?_); decide +kernel) | ((with_reducible refine awOps_one ?_ ?_); decide +kernel) | (with_reducible refine awOps_feed ?_) | ((with_reducible refine awOps_g ?_); refine awOps_guard rfl ?_) | ((with_reducible refine awT_one ?_ ?_); decide +kernel) | ((with_reducible refine awT_call ?_ ?_); decide +kernel) | ((with_reducible refine awT_g ?_); refine awT_guard rfl ?_) | ((with_reducible refine awU_one ?_ ?_); decide +kernel) | ((with_reducible refine awU_call ?_ ?_); decide +kernel) | ((with_reducible refine awU_g ?_); refine awU_guard rfl ?_) | (with_reducible refine AWp.condH ?_)); intro K Q' hK hQ; simp only [hw0, go_sem, Nat.reduceAdd, Nat.reduceSub, Nat.reduceMul, Nat.reduceDiv, Nat.reduceMod, Nat.reduceLT, Nat.reduceLeDiff, Nat.reduceEqDiff, Nat.reduceBEq, Nat.reduceBNe, reduceCtorEq, Int.reduceLE, Int.reduceLT, Int.reduceNeg, Int.reduceToNat, Int.reduceAdd, Int.reduceSub, Int.reduceMul, Int.reduceBEq, Int.reduceBNe, Int.reduceEq]; subst hK hQ)
    | ((with_reducible refine AWp.drawT Try.follows ?_ ?_); decide +kernel) | ((with_reducible refine AWp.drawU Try.follows ?_ ?_); decide +kernel)
    | with_reducible (first | refine awOps_end ?_ | refine awT_end ?_ | refine awU_end ?_ | refine nThen ?_ | refine putKn ?_ | refine nSuf ?_ | refine rThen ?_ | refine eThen ?_ | refine nBlock ?_ | refine eBlock ?_ | refine fBlock (by decide) ?_ | refine rBlock ?_ | refine nScope ?_ | refine eScope ?_ | refine rScope ?_ | refine AWp.seq ?_ | refine AWp.block ?_ | refine AWp.scope ?_ | refine AWp.text ?_ | refine AWp.skip ?_ | refine AWp.exit ?_ | refine AWp.ret ?_ | refine AWp.label ?_ | refine brK_T (by assumption) ?_ | refine brK_F (by assumption) ?_ | refine brK_mk (fun hb => ?_) (fun hb => ?_))
    | ((with_reducible refine And.intro ?_ ?_); focus (first | assumption | omega | (simp only [go_sem, reduceCtorEq]; done)))
    | ((with_reducible (first | refine rBodyZ ?_ | refine nBodyZ ?_ | refine rBodyQ ?_ | refine nBodyQ ?_)); simp only [hw0, go_sem, Nat.reduceAdd, Nat.reduceSub, Nat.reduceMul, Nat.reduceDiv, Nat.reduceMod, Nat.reduceLT, Nat.reduceLeDiff, Nat.reduceEqDiff, Nat.reduceBEq, Nat.reduceBNe, reduceCtorEq, Int.reduceLE, Int.reduceLT, Int.reduceNeg, Int.reduceToNat, Int.reduceAdd, Int.reduceSub, Int.reduceMul, Int.reduceBEq, Int.reduceBNe, Int.reduceEq]))
  refine AWp.loop (α := Nat) (fun k => k ≤ l.length ∧ lastOf (l.take k) x = lastOf l x) (fun k => k) (fun k => mkE 26 [(0, .sl .no l.length (encRs l)), (1, .s x), (6, .i .i64 ((k : Int) - 1))]) (fun _ => σ) l.length ⟨Nat.le_refl _, by rw [List.take_length]⟩ ?_ ?_ ?_
  · simp only [go_sem, Nat.reduceAdd, Nat.reduceSub, Nat.reduceMul, Nat.reduceDiv, Nat.reduceMod, Nat.reduceLT, Nat.reduceLeDiff, Nat.reduceEqDiff, Nat.reduceBEq, Nat.reduceBNe, reduceCtorEq, Int.reduceLE, Int.reduceLT, Int.reduceNeg, Int.reduceToNat, Int.reduceAdd, Int.reduceSub, Int.reduceMul, Int.reduceBEq, Int.reduceBNe, Int.reduceEq]
  · exact WeakS.refl _
  rintro k ⟨hk, hkk⟩
  cases k with
  | zero =>
    have hd : decide ((((0 : Nat) : Int) - 1) ≥ 0) = false := by simp
    have hn : lastOf l x = none := by rw [← hkk]; rfl
    repeat' (first
    | ((first | ((with_reducible refine awOps_move ?_ ?_); decide +kernel) | ((with_reducible refine awOps_load ?_ ?_); decide +kernel) | ((with_reducible refine awOps_one ?_ ?_); decide +kernel) | (with_reducible refine awOps_feed ?_) | ((with_reducible refine awOps_g ?_); refine awOps_guard rfl ?_) | ((with_reducible refine awT_one ?_ ?_); decide +kernel) | ((with_reducible refine awT_call ?_ ?_); decide +kernel) | ((with_reducible refine awT_g ?_); refine awT_guard rfl ?_) | ((with_reducible refine awU_one ?_ ?_); decide +kernel) | ((with_reducible refine awU_call ?_ ?_); decide +kernel) | ((with_reducible refine awU_g ?_); refine awU_guard rfl ?_) | (with_reducible refine AWp.condH ?_)); intro K Q' hK hQ; simp only [hd, hn, go_sem, Nat.reduceAdd, Nat.reduceSub, Nat.reduceMul, Nat.reduceDiv, Nat.reduceMod, Nat.reduceLT, Nat.reduceLeDiff, Nat.reduceEqDiff, Nat.reduceBEq, Nat.reduceBNe, reduceCtorEq, Int.reduceLE, Int.reduceLT, Int.reduceNeg, Int.reduceToNat, Int.reduceAdd, Int.reduceSub, Int.reduceMul, Int.reduceBEq, Int.reduceBNe, Int.reduceEq]; subst hK hQ)
    | ((with_reducible refine AWp.drawT Try.follows ?_ ?_); decide +kernel) | ((with_reducible refine AWp.drawU Try.follows ?_ ?_); decide +kernel)
    | with_reducible (first | refine awOps_end ?_ | refine awT_end ?_ | refine awU_end ?_ | refine nThen ?_ | refine putKn ?_ | refine nSuf ?_ | refine rThen ?_ | refine eThen ?_ | refine nBlock ?_ | refine eBlock ?_ | refine fBlock (by decide) ?_ | refine rBlock ?_ | refine nScope ?_ | refine eScope ?_ | refine rScope ?_ | refine AWp.seq ?_ | refine AWp.block ?_ | refine AWp.scope ?_ | refine AWp.text ?_ | refine AWp.skip ?_ | refine AWp.exit ?_ | refine AWp.ret ?_ | refine AWp.label ?_ | refine brK_T (by assumption) ?_ | refine brK_F (by assumption) ?_ | refine brK_mk (fun hb => ?_) (fun hb => ?_))
    | ((with_reducible refine And.intro ?_ ?_); focus (first | assumption | omega | (simp only [go_sem, reduceCtorEq]; done)))
    | ((with_reducible (first | refine rBodyZ ?_ | refine nBodyZ ?_ | refine rBodyQ ?_ | refine nBodyQ ?_)); simp only [hd, hn, go_sem, Nat.reduceAdd, Nat.reduceSub, Nat.reduceMul, Nat.reduceDiv, Nat.reduceMod, Nat.reduceLT, Nat.reduceLeDiff, Nat.reduceEqDiff, Nat.reduceBEq, Nat.reduceBNe, reduceCtorEq, Int.reduceLE, Int.reduceLT, Int.reduceNeg, Int.reduceToNat, Int.reduceAdd, Int.reduceSub, Int.reduceMul, Int.reduceBEq, Int.reduceBNe, Int.reduceEq]))
    exact ⟨rfl, rfl⟩
  | succ k =>
    have hkl : k < l.length := by omega
    have e1 : (((k + 1 : Nat) : Int) - 1) = (k : Int) := by omega
    have hd : decide ((k : Int) ≥ 0) = true := by simp
    obtain ⟨h1, h2⟩ := encRs_get l k l[k] (List.getElem?_eq_getElem hkl)
    have hr : (0 : Int) ≤ (k : Int) ∧ (k : Int) < (l.length : Int) := by omega
    rw [last_take l x k hkl] at hkk
    have hw1 : IntKind.i64.wrap ((k : Int) - 1) = (k : Int) - 1 := by rw [wrap_i64 (by omega) (by omega)]
    rw [e1]
    repeat' (first
    | ((first | ((with_reducible refine awOps_move ?_ ?_); decide +kernel) | ((with_reducible refine awOps_load ?_ ?_); decide +kernel) | ((with_reducible refine awOps_one ?_ ?_); decide +kernel) | (with_reducible refine awOps_feed ?_) | ((with_reducible refine awOps_g ?_); refine awOps_guard rfl ?_) | ((with_reducible refine awT_one ?_ ?_); decide +kernel) | ((with_reducible refine awT_call ?_ ?_); decide +kernel) | ((with_reducible refine awT_g ?_); refine awT_guard rfl ?_) | ((with_reducible refine awU_one ?_ ?_); decide +kernel) | ((with_reducible refine awU_call ?_ ?_); decide +kernel) | ((with_reducible refine awU_g ?_); refine awU_guard rfl ?_) | (with_reducible refine AWp.condH ?_)); intro K Q' hK hQ; simp only [hd, h1, h2, hr, hw1, go_sem, Nat.reduceAdd, Nat.reduceSub, Nat.reduceMul, Nat.reduceDiv, Nat.reduceMod, Nat.reduceLT, Nat.reduceLeDiff, Nat.reduceEqDiff, Nat.reduceBEq, Nat.reduceBNe, reduceCtorEq, Int.reduceLE, Int.reduceLT, Int.reduceNeg, Int.reduceToNat, Int.reduceAdd, Int.reduceSub, Int.reduceMul, Int.reduceBEq, Int.reduceBNe, Int.reduceEq]; subst hK hQ)
    | ((with_reducible refine AWp.drawT Try.follows ?_ ?_); decide +kernel) | ((with_reducible refine AWp.drawU Try.follows ?_ ?_); decide +kernel)
    | with_reducible (first | refine awOps_end ?_ | refine awT_end ?_ | refine awU_end ?_ | refine nThen ?_ | refine putKn ?_ | refine nSuf ?_ | refine rThen ?_ | refine eThen ?_ | refine nBlock ?_ | refine eBlock ?_ | refine fBlock (by decide) ?_ | refine rBlock ?_ | refine nScope ?_ | refine eScope ?_ | refine rScope ?_ | refine AWp.seq ?_ | refine AWp.block ?_ | refine AWp.scope ?_ | refine AWp.text ?_ | refine AWp.skip ?_ | refine AWp.exit ?_ | refine AWp.ret ?_ | refine AWp.label ?_ | refine brK_T (by assumption) ?_ | refine brK_F (by assumption) ?_ | refine brK_mk (fun hb => ?_) (fun hb => ?_))
    | ((with_reducible refine And.intro ?_ ?_); focus (first | assumption | omega | (simp only [go_sem, reduceCtorEq]; done)))
    | ((with_reducible (first | refine rBodyZ ?_ | refine nBodyZ ?_ | refine rBodyQ ?_ | refine nBodyQ ?_)); simp only [hd, h1, h2, hr, hw1, go_sem, Nat.reduceAdd, Nat.reduceSub, Nat.reduceMul, Nat.reduceDiv, Nat.reduceMod, Nat.reduceLT, Nat.reduceLeDiff, Nat.reduceEqDiff, Nat.reduceBEq, Nat.reduceBNe, reduceCtorEq, Int.reduceLE, Int.reduceLT, Int.reduceNeg, Int.reduceToNat, Int.reduceAdd, Int.reduceSub, Int.reduceMul, Int.reduceBEq, Int.reduceBNe, Int.reduceEq]))
    · have hx : l[k].1 = x := by simpa using hb
      rw [if_pos hx.symm] at hkk
      rw [← hkk]
      exact ⟨rfl, rfl⟩
    · have hx : ¬ x = l[k].1 := fun e => by simp [e] at hb
      rw [if_neg hx] at hkk
      exact ⟨k, ⟨by omega, hkk⟩, by simp only; omega, by simp only [go_sem, Nat.reduceAdd, Nat.reduceSub, Nat.reduceMul, Nat.reduceDiv, Nat.reduceMod, Nat.reduceLT, Nat.reduceLeDiff, Nat.reduceEqDiff, Nat.reduceBEq, Nat.reduceBNe, reduceCtorEq, Int.reduceLE, Int.reduceLT, Int.reduceNeg, Int.reduceToNat, Int.reduceAdd, Int.reduceSub, Int.reduceMul, Int.reduceBEq, Int.reduceBNe, Int.reduceEq], WeakS.refl _⟩

/-- What Backward yields. -/
def backs (l : List PRec) : List (List AV) := (List.range l.length).map fun j => [.i .i64 ((l.length - 1 - j : Nat) : Int), .agg (encR (l.getD (l.length - 1 - j) ([], [])))]
theorem backs_get (l : List PRec) (j : Nat) (h : j < l.length) : (backs l)[j]? = some [.i .i64 ((l.length - 1 - j : Nat) : Int), .agg (encR (l[l.length - 1 - j]'(by omega)))] := by
  simp only [backs, List.getElem?_map, List.getElem?_range h, Option.map_some]
  rw [List.getD_eq_getElem?_getD, List.getElem?_eq_getElem (by omega)]
  rfl
theorem backs_len (l : List PRec) : (backs l).length = l.length := by simp [backs]
theorem backward1 (l : List PRec) (hl : l.length ≤ 1099511627776) : Iter Try.prog G0 45 [.pi [.sl .no l.length (encRs l)] 0] (backs l) := by
  intro id T F σ hT hF hy h0 ls
  refine ACalls.body G0_pl Try.func45 rfl (by rfl) (by decide) ?_; simp only [Try.ntmps45, List.replicate, go_sem, Nat.reduceAdd, Nat.reduceSub]
  have hw0 : IntKind.i64.wrap ((l.length : Int) - 1) = (l.length : Int) - 1 := by rw [wrap_i64 (by omega) (by omega)]
  repeat' (first
    | ((first | ((with_reducible refine awOps_move ?_ ?_); decide +kernel) | ((with_reducible refine awOps_load ?_ ?_); decide +kernel) | ((with_reducible refine awOps_one ?_ ?_); decide +kernel) | (with_reducible refine awOps_feed ?_) | ((with_reducible refine awOps_g ?_); refine awOps_guard rfl ?_) | ((with_reducible refine awT_one ?_ ?_); decide +kernel) | ((with_reducible refine awT_call ?_ ?_); decide +kernel) | ((with_reducible refine awT_g ?_); refine awT_guard rfl ?_) | ((with_reducible refine awU_one ?_ ?_); decide +kernel) | ((with_reducible refine awU_call ?_ ?_); decide +kernel) | ((with_reducible refine awU_g ?_); refine awU_guard rfl ?_) | (with_reducible refine AWp.condH ?_)); intro K Q' hK hQ; simp only [hw0, go_sem, Nat.reduceAdd, Nat.reduceSub, Nat.reduceMul, Nat.reduceDiv, Nat.reduceMod, Nat.reduceLT, Nat.reduceLeDiff, Nat.reduceEqDiff, Nat.reduceBEq, Nat.reduceBNe, reduceCtorEq, Int.reduceLE, Int.reduceLT, Int.reduceNeg, Int.reduceToNat, Int.reduceAdd, Int.reduceSub, Int.reduceMul, Int.reduceBEq, Int.reduceBNe, Int.reduceEq]; subst hK hQ)
    | ((with_reducible refine AWp.drawT Try.follows ?_ ?_); decide +kernel) | ((with_reducible refine AWp.drawU Try.follows ?_ ?_); decide +kernel)
    | with_reducible (first | refine awOps_end ?_ | refine awT_end ?_ | refine awU_end ?_ | refine nThen ?_ | refine putKn ?_ | refine nSuf ?_ | refine rThen ?_ | refine eThen ?_ | refine nBlock ?_ | refine eBlock ?_ | refine fBlock (by decide) ?_ | refine rBlock ?_ | refine nScope ?_ | refine eScope ?_ | refine rScope ?_ | refine AWp.seq ?_ | refine AWp.block ?_ | refine AWp.scope ?_ | refine AWp.text ?_ | refine AWp.skip ?_ | refine AWp.exit ?_ | refine AWp.ret ?_ | refine AWp.label ?_ | refine brK_T (by assumption) ?_ | refine brK_F (by assumption) ?_ | refine brK_mk (fun hb => ?_) (fun hb => ?_))
    | ((with_reducible refine And.intro ?_ ?_); focus (first | assumption | omega | (simp only [go_sem, reduceCtorEq]; done)))
    | ((with_reducible (first | refine rBodyZ ?_ | refine nBodyZ ?_ | refine rBodyQ ?_ | refine nBodyQ ?_)); simp only [hw0, go_sem, Nat.reduceAdd, Nat.reduceSub, Nat.reduceMul, Nat.reduceDiv, Nat.reduceMod, Nat.reduceLT, Nat.reduceLeDiff, Nat.reduceEqDiff, Nat.reduceBEq, Nat.reduceBNe, reduceCtorEq, Int.reduceLE, Int.reduceLT, Int.reduceNeg, Int.reduceToNat, Int.reduceAdd, Int.reduceSub, Int.reduceMul, Int.reduceBEq, Int.reduceBNe, Int.reduceEq]))
  refine AWp.loop (α := Nat × AState) (fun x => x.1 ≤ l.length ∧ T ((backs l).take (l.length - x.1)) x.2) (fun x => x.1) (fun x => mkE 19 [(0, .yl id), (1, .pi [.sl .no l.length (encRs l)] 0), (3, .i .i64 ((x.1 : Int) - 1))]) (fun x => x.2 ++ ls) (l.length, σ) ⟨Nat.le_refl _, by simpa using h0⟩ ?_ ?_ ?_
  · simp only [go_sem, Nat.reduceAdd, Nat.reduceSub, Nat.reduceMul, Nat.reduceDiv, Nat.reduceMod, Nat.reduceLT, Nat.reduceLeDiff, Nat.reduceEqDiff, Nat.reduceBEq, Nat.reduceBNe, reduceCtorEq, Int.reduceLE, Int.reduceLT, Int.reduceNeg, Int.reduceToNat, Int.reduceAdd, Int.reduceSub, Int.reduceMul, Int.reduceBEq, Int.reduceBNe, Int.reduceEq]
  · exact WeakS.refl _
  rintro ⟨k, s⟩ ⟨hk, hTs⟩
  simp only at hk hTs
  cases k with
  | zero =>
    have hd : decide ((((0 : Nat) : Int) - 1) ≥ 0) = false := by simp
    rw [Nat.sub_zero, List.take_of_length_le (by rw [backs_len]; exact Nat.le_refl _)] at hTs
    repeat' (first
    | ((first | ((with_reducible refine awOps_move ?_ ?_); decide +kernel) | ((with_reducible refine awOps_load ?_ ?_); decide +kernel) | ((with_reducible refine awOps_one ?_ ?_); decide +kernel) | (with_reducible refine awOps_feed ?_) | ((with_reducible refine awOps_g ?_); refine awOps_guard rfl ?_) | ((with_reducible refine awT_one ?_ ?_); decide +kernel) | ((with_reducible refine awT_call ?_ ?_); decide +kernel) | ((with_reducible refine awT_g ?_); refine awT_guard rfl ?_) | ((with_reducible refine awU_one ?_ ?_); decide +kernel) | ((with_reducible refine awU_call ?_ ?_); decide +kernel) | ((with_reducible refine awU_g ?_); refine awU_guard rfl ?_) | (with_reducible refine AWp.condH ?_)); intro K Q' hK hQ; simp only [hd, go_sem, Nat.reduceAdd, Nat.reduceSub, Nat.reduceMul, Nat.reduceDiv, Nat.reduceMod, Nat.reduceLT, Nat.reduceLeDiff, Nat.reduceEqDiff, Nat.reduceBEq, Nat.reduceBNe, reduceCtorEq, Int.reduceLE, Int.reduceLT, Int.reduceNeg, Int.reduceToNat, Int.reduceAdd, Int.reduceSub, Int.reduceMul, Int.reduceBEq, Int.reduceBNe, Int.reduceEq]; subst hK hQ)
    | ((with_reducible refine AWp.drawT Try.follows ?_ ?_); decide +kernel) | ((with_reducible refine AWp.drawU Try.follows ?_ ?_); decide +kernel)
    | with_reducible (first | refine awOps_end ?_ | refine awT_end ?_ | refine awU_end ?_ | refine nThen ?_ | refine putKn ?_ | refine nSuf ?_ | refine rThen ?_ | refine eThen ?_ | refine nBlock ?_ | refine eBlock ?_ | refine fBlock (by decide) ?_ | refine rBlock ?_ | refine nScope ?_ | refine eScope ?_ | refine rScope ?_ | refine AWp.seq ?_ | refine AWp.block ?_ | refine AWp.scope ?_ | refine AWp.text ?_ | refine AWp.skip ?_ | refine AWp.exit ?_ | refine AWp.ret ?_ | refine AWp.label ?_ | refine brK_T (by assumption) ?_ | refine brK_F (by assumption) ?_ | refine brK_mk (fun hb => ?_) (fun hb => ?_))
    | ((with_reducible refine And.intro ?_ ?_); focus (first | assumption | omega | (simp only [go_sem, reduceCtorEq]; done)))
    | ((with_reducible (first | refine rBodyZ ?_ | refine nBodyZ ?_ | refine rBodyQ ?_ | refine nBodyQ ?_)); simp only [hd, go_sem, Nat.reduceAdd, Nat.reduceSub, Nat.reduceMul, Nat.reduceDiv, Nat.reduceMod, Nat.reduceLT, Nat.reduceLeDiff, Nat.reduceEqDiff, Nat.reduceBEq, Nat.reduceBNe, reduceCtorEq, Int.reduceLE, Int.reduceLT, Int.reduceNeg, Int.reduceToNat, Int.reduceAdd, Int.reduceSub, Int.reduceMul, Int.reduceBEq, Int.reduceBNe, Int.reduceEq]))
    exact ⟨_, s, rfl, rfl, .inl hTs⟩
  | succ k =>
    have hkl : k < l.length := by omega
    have e1 : (((k + 1 : Nat) : Int) - 1) = (k : Int) := by omega
    have hd : decide ((k : Int) ≥ 0) = true := by simp
    obtain ⟨h1, h2⟩ := encRs_get l k l[k] (List.getElem?_eq_getElem hkl)
    have hr : (0 : Int) ≤ (k : Int) ∧ (k : Int) < (l.length : Int) := by omega
    have hw1 : IntKind.i64.wrap ((k : Int) - 1) = (k : Int) - 1 := by rw [wrap_i64 (by omega) (by omega)]
    have hj : l.length - (k + 1) < l.length := by omega
    have hjl : l.length - (k + 1) < (backs l).length := by rw [backs_len]; exact hj
    have hg := backs_get l (l.length - (k + 1)) hj
    have hidx : l.length - 1 - (l.length - (k + 1)) = k := by omega
    simp only [hidx] at hg
    have hsp : backs l = (backs l).take (l.length - (k + 1)) ++ [.i .i64 k, .agg [.s l[k].1, .s l[k].2]] :: (backs l).drop (l.length - (k + 1) + 1) := by
      rw [List.getElem?_eq_getElem hjl] at hg
      have hg' : (backs l)[l.length - (k + 1)] = [.i .i64 k, .agg [.s l[k].1, .s l[k].2]] := by simpa [encR] using hg
      rw [← hg', ← List.drop_eq_getElem_cons hjl, List.take_append_drop]
    have hnx : (backs l).take (l.length - k) = (backs l).take (l.length - (k + 1)) ++ [[.i .i64 k, .agg [.s l[k].1, .s l[k].2]]] := by
      rw [show l.length - k = l.length - (k + 1) + 1 by omega, List.take_add_one, hg]
      rfl
    rw [e1]
    repeat' (first
    | ((first | ((with_reducible refine awOps_move ?_ ?_); decide +kernel) | ((with_reducible refine awOps_load ?_ ?_); decide +kernel) | ((with_reducible refine awOps_one ?_ ?_); decide +kernel) | (with_reducible refine awOps_feed ?_) | ((with_reducible refine awOps_g ?_); refine awOps_guard rfl ?_) | ((with_reducible refine awT_one ?_ ?_); decide +kernel) | ((with_reducible refine awT_call ?_ ?_); decide +kernel) | ((with_reducible refine awT_g ?_); refine awT_guard rfl ?_) | ((with_reducible refine awU_one ?_ ?_); decide +kernel) | ((with_reducible refine awU_call ?_ ?_); decide +kernel) | ((with_reducible refine awU_g ?_); refine awU_guard rfl ?_) | (with_reducible refine AWp.condH ?_)); intro K Q' hK hQ; simp only [hd, h1, h2, hr, hw1, go_sem, Nat.reduceAdd, Nat.reduceSub, Nat.reduceMul, Nat.reduceDiv, Nat.reduceMod, Nat.reduceLT, Nat.reduceLeDiff, Nat.reduceEqDiff, Nat.reduceBEq, Nat.reduceBNe, reduceCtorEq, Int.reduceLE, Int.reduceLT, Int.reduceNeg, Int.reduceToNat, Int.reduceAdd, Int.reduceSub, Int.reduceMul, Int.reduceBEq, Int.reduceBNe, Int.reduceEq]; subst hK hQ)
    | ((with_reducible refine AWp.drawT Try.follows ?_ ?_); decide +kernel) | ((with_reducible refine AWp.drawU Try.follows ?_ ?_); decide +kernel)
    | with_reducible (first | refine awOps_end ?_ | refine awT_end ?_ | refine awU_end ?_ | refine nThen ?_ | refine putKn ?_ | refine nSuf ?_ | refine rThen ?_ | refine eThen ?_ | refine nBlock ?_ | refine eBlock ?_ | refine fBlock (by decide) ?_ | refine rBlock ?_ | refine nScope ?_ | refine eScope ?_ | refine rScope ?_ | refine AWp.seq ?_ | refine AWp.block ?_ | refine AWp.scope ?_ | refine AWp.text ?_ | refine AWp.skip ?_ | refine AWp.exit ?_ | refine AWp.ret ?_ | refine AWp.label ?_ | refine brK_T (by assumption) ?_ | refine brK_F (by assumption) ?_ | refine brK_mk (fun hb => ?_) (fun hb => ?_))
    | ((with_reducible refine And.intro ?_ ?_); focus (first | assumption | omega | (simp only [go_sem, reduceCtorEq]; done)))
    | ((with_reducible (first | refine rBodyZ ?_ | refine nBodyZ ?_ | refine rBodyQ ?_ | refine nBodyQ ?_)); simp only [hd, h1, h2, hr, hw1, go_sem, Nat.reduceAdd, Nat.reduceSub, Nat.reduceMul, Nat.reduceDiv, Nat.reduceMod, Nat.reduceLT, Nat.reduceLeDiff, Nat.reduceEqDiff, Nat.reduceBEq, Nat.reduceBNe, reduceCtorEq, Int.reduceLE, Int.reduceLT, Int.reduceNeg, Int.reduceToNat, Int.reduceAdd, Int.reduceSub, Int.reduceMul, Int.reduceBEq, Int.reduceBNe, Int.reduceEq]))
    refine (hy _ _ _ s ls hsp hTs).mono ?_
    rintro y tt ⟨s', rfl, (⟨rfl, hT'⟩ | ⟨rfl, hF'⟩)⟩
    · simp only [callK, go_sem]
      repeat' (first
    | ((first | ((with_reducible refine awOps_move ?_ ?_); decide +kernel) | ((with_reducible refine awOps_load ?_ ?_); decide +kernel) | ((with_reducible refine awOps_one ?_ ?_); decide +kernel) | (with_reducible refine awOps_feed ?_) | ((with_reducible refine awOps_g ?_); refine awOps_guard rfl ?_) | ((with_reducible refine awT_one ?_ ?_); decide +kernel) | ((with_reducible refine awT_call ?_ ?_); decide +kernel) | ((with_reducible refine awT_g ?_); refine awT_guard rfl ?_) | ((with_reducible refine awU_one ?_ ?_); decide +kernel) | ((with_reducible refine awU_call ?_ ?_); decide +kernel) | ((with_reducible refine awU_g ?_); refine awU_guard rfl ?_) | (with_reducible refine AWp.condH ?_)); intro K Q' hK hQ; simp only [hw1, go_sem, Nat.reduceAdd, Nat.reduceSub, Nat.reduceMul, Nat.reduceDiv, Nat.reduceMod, Nat.reduceLT, Nat.reduceLeDiff, Nat.reduceEqDiff, Nat.reduceBEq, Nat.reduceBNe, reduceCtorEq, Int.reduceLE, Int.reduceLT, Int.reduceNeg, Int.reduceToNat, Int.reduceAdd, Int.reduceSub, Int.reduceMul, Int.reduceBEq, Int.reduceBNe, Int.reduceEq]; subst hK hQ)
    | ((with_reducible refine AWp.drawT Try.follows ?_ ?_); decide +kernel) | ((with_reducible refine AWp.drawU Try.follows ?_ ?_); decide +kernel)
    | with_reducible (first | refine awOps_end ?_ | refine awT_end ?_ | refine awU_end ?_ | refine nThen ?_ | refine putKn ?_ | refine nSuf ?_ | refine rThen ?_ | refine eThen ?_ | refine nBlock ?_ | refine eBlock ?_ | refine fBlock (by decide) ?_ | refine rBlock ?_ | refine nScope ?_ | refine eScope ?_ | refine rScope ?_ | refine AWp.seq ?_ | refine AWp.block ?_ | refine AWp.scope ?_ | refine AWp.text ?_ | refine AWp.skip ?_ | refine AWp.exit ?_ | refine AWp.ret ?_ | refine AWp.label ?_ | refine brK_T (by assumption) ?_ | refine brK_F (by assumption) ?_ | refine brK_mk (fun hb => ?_) (fun hb => ?_))
    | ((with_reducible refine And.intro ?_ ?_); focus (first | assumption | omega | (simp only [go_sem, reduceCtorEq]; done)))
    | ((with_reducible (first | refine rBodyZ ?_ | refine nBodyZ ?_ | refine rBodyQ ?_ | refine nBodyQ ?_)); simp only [hw1, go_sem, Nat.reduceAdd, Nat.reduceSub, Nat.reduceMul, Nat.reduceDiv, Nat.reduceMod, Nat.reduceLT, Nat.reduceLeDiff, Nat.reduceEqDiff, Nat.reduceBEq, Nat.reduceBNe, reduceCtorEq, Int.reduceLE, Int.reduceLT, Int.reduceNeg, Int.reduceToNat, Int.reduceAdd, Int.reduceSub, Int.reduceMul, Int.reduceBEq, Int.reduceBNe, Int.reduceEq]))
      exact ⟨(k, s'), ⟨by simp only; omega, by simp only; rw [hnx]; exact hT'⟩, by simp only; omega, by simp only [hw1, go_sem, Nat.reduceAdd, Nat.reduceSub, Nat.reduceMul, Nat.reduceDiv, Nat.reduceMod, Nat.reduceLT, Nat.reduceLeDiff, Nat.reduceEqDiff, Nat.reduceBEq, Nat.reduceBNe, reduceCtorEq, Int.reduceLE, Int.reduceLT, Int.reduceNeg, Int.reduceToNat, Int.reduceAdd, Int.reduceSub, Int.reduceMul, Int.reduceBEq, Int.reduceBNe, Int.reduceEq], WeakS.refl _⟩
    · simp only [callK, go_sem]
      repeat' (first
    | ((first | ((with_reducible refine awOps_move ?_ ?_); decide +kernel) | ((with_reducible refine awOps_load ?_ ?_); decide +kernel) | ((with_reducible refine awOps_one ?_ ?_); decide +kernel) | (with_reducible refine awOps_feed ?_) | ((with_reducible refine awOps_g ?_); refine awOps_guard rfl ?_) | ((with_reducible refine awT_one ?_ ?_); decide +kernel) | ((with_reducible refine awT_call ?_ ?_); decide +kernel) | ((with_reducible refine awT_g ?_); refine awT_guard rfl ?_) | ((with_reducible refine awU_one ?_ ?_); decide +kernel) | ((with_reducible refine awU_call ?_ ?_); decide +kernel) | ((with_reducible refine awU_g ?_); refine awU_guard rfl ?_) | (with_reducible refine AWp.condH ?_)); intro K Q' hK hQ; simp only [go_sem, Nat.reduceAdd, Nat.reduceSub, Nat.reduceMul, Nat.reduceDiv, Nat.reduceMod, Nat.reduceLT, Nat.reduceLeDiff, Nat.reduceEqDiff, Nat.reduceBEq, Nat.reduceBNe, reduceCtorEq, Int.reduceLE, Int.reduceLT, Int.reduceNeg, Int.reduceToNat, Int.reduceAdd, Int.reduceSub, Int.reduceMul, Int.reduceBEq, Int.reduceBNe, Int.reduceEq]; subst hK hQ)
    | ((with_reducible refine AWp.drawT Try.follows ?_ ?_); decide +kernel) | ((with_reducible refine AWp.drawU Try.follows ?_ ?_); decide +kernel)
    | with_reducible (first | refine awOps_end ?_ | refine awT_end ?_ | refine awU_end ?_ | refine nThen ?_ | refine putKn ?_ | refine nSuf ?_ | refine rThen ?_ | refine eThen ?_ | refine nBlock ?_ | refine eBlock ?_ | refine fBlock (by decide) ?_ | refine rBlock ?_ | refine nScope ?_ | refine eScope ?_ | refine rScope ?_ | refine AWp.seq ?_ | refine AWp.block ?_ | refine AWp.scope ?_ | refine AWp.text ?_ | refine AWp.skip ?_ | refine AWp.exit ?_ | refine AWp.ret ?_ | refine AWp.label ?_ | refine brK_T (by assumption) ?_ | refine brK_F (by assumption) ?_ | refine brK_mk (fun hb => ?_) (fun hb => ?_))
    | ((with_reducible refine And.intro ?_ ?_); focus (first | assumption | omega | (simp only [go_sem, reduceCtorEq]; done)))
    | ((with_reducible (first | refine rBodyZ ?_ | refine nBodyZ ?_ | refine rBodyQ ?_ | refine nBodyQ ?_)); simp only [go_sem, Nat.reduceAdd, Nat.reduceSub, Nat.reduceMul, Nat.reduceDiv, Nat.reduceMod, Nat.reduceLT, Nat.reduceLeDiff, Nat.reduceEqDiff, Nat.reduceBEq, Nat.reduceBNe, reduceCtorEq, Int.reduceLE, Int.reduceLT, Int.reduceNeg, Int.reduceToNat, Int.reduceAdd, Int.reduceSub, Int.reduceMul, Int.reduceBEq, Int.reduceBNe, Int.reduceEq]))
      exact ⟨_, s', rfl, rfl, .inr ⟨_, hF'⟩⟩

theorem backward (l : List PRec) (σ : AState) : ACalls Try.prog G0 39 [.sl .no l.length (encRs l)] σ (retIs (.fn 45 [.pi [.sl .no l.length (encRs l)] 0]) σ) := by
  refine ACalls.bodyZ G0_pl Try.func39 rfl (by rfl) (by decide) ?_; simp only [Try.ntmps39, List.replicate, go_sem, Nat.reduceAdd, Nat.reduceSub]
  repeat' (first
    | ((first | ((with_reducible refine awOps_move ?_ ?_); decide +kernel) | ((with_reducible refine awOps_load ?_ ?_); decide +kernel) | ((with_reducible refine awOps_one ?_ ?_); decide +kernel) | (with_reducible refine awOps_feed ?_) | ((with_reducible refine awOps_g ?_); refine awOps_guard rfl ?_) | ((with_reducible refine awT_one ?_ ?_); decide +kernel) | ((with_reducible refine awT_call ?_ ?_); decide +kernel) | ((with_reducible refine awT_g ?_); refine awT_guard rfl ?_) | ((with_reducible refine awU_one ?_ ?_); decide +kernel) | ((with_reducible refine awU_call ?_ ?_); decide +kernel) | ((with_reducible refine awU_g ?_); refine awU_guard rfl ?_) | (with_reducible refine AWp.condH ?_)); intro K Q' hK hQ; simp only [go_sem, Nat.reduceAdd, Nat.reduceSub, Nat.reduceMul, Nat.reduceDiv, Nat.reduceMod, Nat.reduceLT, Nat.reduceLeDiff, Nat.reduceEqDiff, Nat.reduceBEq, Nat.reduceBNe, reduceCtorEq, Int.reduceLE, Int.reduceLT, Int.reduceNeg, Int.reduceToNat, Int.reduceAdd, Int.reduceSub, Int.reduceMul, Int.reduceBEq, Int.reduceBNe, Int.reduceEq]; subst hK hQ)
    | ((with_reducible refine AWp.drawT Try.follows ?_ ?_); decide +kernel) | ((with_reducible refine AWp.drawU Try.follows ?_ ?_); decide +kernel)
    | with_reducible (first | refine awOps_end ?_ | refine awT_end ?_ | refine awU_end ?_ | refine nThen ?_ | refine putKn ?_ | refine nSuf ?_ | refine rThen ?_ | refine eThen ?_ | refine nBlock ?_ | refine eBlock ?_ | refine fBlock (by decide) ?_ | refine rBlock ?_ | refine nScope ?_ | refine eScope ?_ | refine rScope ?_ | refine AWp.seq ?_ | refine AWp.block ?_ | refine AWp.scope ?_ | refine AWp.text ?_ | refine AWp.skip ?_ | refine AWp.exit ?_ | refine AWp.ret ?_ | refine AWp.label ?_ | refine brK_T (by assumption) ?_ | refine brK_F (by assumption) ?_ | refine brK_mk (fun hb => ?_) (fun hb => ?_))
    | ((with_reducible refine And.intro ?_ ?_); focus (first | assumption | omega | (simp only [go_sem, reduceCtorEq]; done)))
    | ((with_reducible (first | refine rBodyZ ?_ | refine nBodyZ ?_ | refine rBodyQ ?_ | refine nBodyQ ?_)); simp only [go_sem, Nat.reduceAdd, Nat.reduceSub, Nat.reduceMul, Nat.reduceDiv, Nat.reduceMod, Nat.reduceLT, Nat.reduceLeDiff, Nat.reduceEqDiff, Nat.reduceBEq, Nat.reduceBNe, reduceCtorEq, Int.reduceLE, Int.reduceLT, Int.reduceNeg, Int.reduceToNat, Int.reduceAdd, Int.reduceSub, Int.reduceMul, Int.reduceBEq, Int.reduceBNe, Int.reduceEq]))
  exact ⟨cleanRs _ _, rfl, rfl⟩
end Go.Proofs.Ytoofpdmdgofdcaa.L
