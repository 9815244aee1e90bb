/- Records of choices: the code that makes them. No condition. -/
import Derived.Test.YtoofpdmdgofdcaaNamesB
import Derived.Test.YtoofpdmdgofdcaaRB
namespace Go.Proofs.Ytoofpdmdgofdcaa.L
open Go Go.RowKit Go.Proofs.Ytoofpdmdgofdcaa.E Go.Proofs.Ytoofpdmdgofdcaa.X
set_option linter.unusedVariables false
set_option linter.unusedSimpArgs false
set_option maxRecDepth 100000
set_option maxHeartbeats 1000000

abbrev GRec : GT := .pair .str .str
noncomputable def recsC : Code := Try.f18.body.getD .skip
noncomputable def recsL2 : Code := lbody 2 recsC
noncomputable def recsL0 : Code := lbody 0 recsC

def pieces : List (List UInt8) := [[97], [10], [61], [32], [48], [195, 169]]
def vO (b : UInt8) (k : Nat) : List UInt8 := (List.range k).flatMap fun j => pieces.getD ((b.toNat + j) % 6) []
def recsF2 (s : St) : LS :=
  match s.get 0, s.get 6, s.get 7, s.get 8 with
  | .sl o .byte c, .i .i64 i, .s v, .i .i64 k => .req (v == [] && k == 0 && decide (0 ≤ i) && decide (i + 1 < (c.length : Int)) && decide (i < 1000000)) (.out [.s (vO (c.getD (i + 1).toNat 0) ((c.getD (i + 1).toNat 0).toNat % 13))] [])
  | _, _, _, _ => .stuck
def recsK2 : St → Tree := kl 61 [0, 1, 5, 6] [7] [4] recsF2

theorem recs_r2 (o : Bool) (c : List UInt8) (i k : Int) (v : List UInt8) (e1 e5 : SV) (σ : List SO) : loopV 2 [0, 1, 5, 6, 7, 8] ([0, 1, 5, 6] ++ [7]) [4] (run Try.prog noT noL recsL2 ⟨mk 61 ([0, 1, 5, 6, 7, 8].zip [.sl o .byte c, e1, e5, .i .i64 i, .s v, .i .i64 k]), σ, [], []⟩) =
  LV.req (inRb IntKind.i64 (i + (1 : Int)))
    (LV.req (decide ((0 : Int) ≤ i + (1 : Int)) && decide (i + (1 : Int) < toI c.length))
      (LV.req (decide ((i + (1 : Int)).toNat < c.length))
        (LV.req true
          (LV.ite (decide (k < toI (c.getD (i + (1 : Int)).toNat (0 : UInt8) % (13 : UInt8)).toNat))
            (LV.req (inRb IntKind.i64 (i + (1 : Int)))
              (LV.req (decide ((0 : Int) ≤ i + (1 : Int)) && decide (i + (1 : Int) < toI c.length))
                (LV.req (decide ((i + (1 : Int)).toNat < c.length))
                  (LV.req (inRb IntKind.i64 (toI (UInt8.toNat (c.getD (i + (1 : Int)).toNat (0 : UInt8))) + k))
                    (LV.req true
                      (LV.req
                        (decide
                            ((0 : Int) ≤
                              (toI (UInt8.toNat (c.getD (i + (1 : Int)).toNat (0 : UInt8))) + k).tmod (6 : Int)) &&
                          decide
                            ((toI (UInt8.toNat (c.getD (i + (1 : Int)).toNat (0 : UInt8))) + k).tmod (6 : Int) <
                              (6 : Int)))
                        (LV.req
                          (decide
                            (((toI (UInt8.toNat (c.getD (i + (1 : Int)).toNat (0 : UInt8))) + k).tmod (6 : Int)).toNat <
                              (6 : Nat)))
                          (LV.req
                            (decide
                              (v.length +
                                  List.length
                                    ([[(97 : UInt8)], [(10 : UInt8)], [(61 : UInt8)], [(32 : UInt8)], [(48 : UInt8)],
                                          [(195 : UInt8), (169 : UInt8)]].getD
                                      ((toI (UInt8.toNat (c.getD (i + (1 : Int)).toNat (0 : UInt8))) + k).tmod
                                          (6 : Int)).toNat
                                      []) ≤
                                (1152921504606846976 : Nat)))
                            (LV.req (inRb IntKind.i64 (k + (1 : Int)))
                              (LV.cont
                                [SV.sl o GT.byte c, e1, e5, SV.i IntKind.i64 i,
                                  SV.s
                                    (v ++
                                      [[(97 : UInt8)], [(10 : UInt8)], [(61 : UInt8)], [(32 : UInt8)], [(48 : UInt8)],
                                            [(195 : UInt8), (169 : UInt8)]].getD
                                        ((toI (UInt8.toNat (c.getD (i + (1 : Int)).toNat (0 : UInt8))) + k).tmod
                                            (6 : Int)).toNat
                                        []),
                                  SV.i IntKind.i64 (k + (1 : Int))]
                                σ))))))))))
            (LV.out [SV.sl o GT.byte c, e1, e5, SV.i IntKind.i64 i, SV.s v] σ))))) := by kernel_rfl

theorem vO_succ (b : UInt8) (k : Nat) : vO b (k + 1) = vO b k ++ pieces.getD ((b.toNat + k) % 6) [] := by simp [vO, List.range_succ]
theorem pieces_len (j : Nat) : (pieces.getD j []).length ≤ 2 := by
  match j with
  | 0 | 1 | 2 | 3 | 4 | 5 => decide
  | j + 6 => simp [pieces]
theorem vO_len (b : UInt8) : ∀ k, (vO b k).length ≤ 2 * k
  | 0 => by simp [vO]
  | k + 1 => by
    have := vO_len b k
    have := pieces_len ((b.toNat + k) % 6)
    rw [vO_succ, List.length_append]
    omega
theorem recsL2_ok : LoopF Try.prog plainR 2 (.loop recsL2) recsK2 := loopF (ins := [0, 1, 5, 6, 7, 8]) Try.follows noT_ok noL_ag (blk_none _) fun s hn hk => by
  unfold recsF2 at hk ⊢
  split at hk
  · rename_i o c i v k h0 h6 h7 h8
    obtain ⟨hk, -⟩ := hk
    simp only [Bool.and_eq_true, decide_eq_true_eq, beq_iff_eq] at hk
    obtain ⟨⟨⟨⟨rfl, rfl⟩, hi⟩, hic⟩, him⟩ := hk
    generalize hb : c.getD (i + 1).toNat 0 = b
    have hb13 : (b % 13).toNat = b.toNat % 13 := by rw [UInt8.toNat_mod]; rfl
    have hb256 := b.toNat_lt
    refine ⟨{ α := Nat, inv := fun k => k ≤ b.toNat % 13, μ := fun k => b.toNat % 13 - k, V := fun k => [.sl o .byte c, s.get 1, s.get 5, .i .i64 i, .s (vO b k), .i .i64 k], J := fun _ => s.σ, x0 := 0, h0 := Nat.zero_le _, he := ?_, hJ := fun f => .refl f _, round := fun k hk => ?_ }⟩
    · simp only [gets, List.map_cons, List.map_nil, h0, h6, h7, h8]
      simp only [go_sem, Bool.and_eq_true, Bool.or_eq_true, Bool.and_eq_false_iff, Bool.or_eq_false_iff, decide_eq_true_eq, decide_eq_false_iff_not, beq_iff_eq, beq_eq_false_iff_ne, Bool.not_eq_true', Bool.not_eq_false', true_and, and_true, reduceCtorEq, Nat.reduceLT, Nat.reduceLeDiff, List.length_cons, List.length_nil, Nat.zero_add, Nat.reduceAdd]
      exact ⟨rfl, rfl⟩
    · rw [recs_r2, hb]
      simp only [h0, h6, go_sem, Bool.and_eq_true, Bool.or_eq_true, Bool.and_eq_false_iff, Bool.or_eq_false_iff, decide_eq_true_eq, decide_eq_false_iff_not, beq_iff_eq, beq_eq_false_iff_ne, Bool.not_eq_true', Bool.not_eq_false', true_and, and_true, reduceCtorEq, Nat.reduceLT, Nat.reduceLeDiff, List.length_cons, List.length_nil, Nat.zero_add, Nat.reduceAdd]
      have hm6 : (UInt8.toNat b + k) % 6 < 6 := Nat.mod_lt _ (by omega)
      have ht : ((UInt8.toNat b : Int) + (k : Int)).tmod 6 = (((UInt8.toNat b + k) % 6 : Nat) : Int) := by rw [Int.tmod_eq_emod_of_nonneg (by omega)]; omega
      have hp := pieces_len ((UInt8.toNat b + k) % 6)
      have hv := vO_len b k
      have hs := vO_succ b k
      unfold pieces at hp hs
      rw [hb13, ht, Int.toNat_natCast]
      refine ⟨by omega, by omega, by omega, fun hlt => ⟨by omega, by omega, by omega, by omega, by omega, by omega, by omega, by omega, k + 1, by omega, by omega, ⟨hs.symm, rfl⟩, fun _ => trivial⟩, fun hge => ⟨?_, fun _ => trivial⟩⟩
      rw [show k = UInt8.toNat b % 13 by omega]
  · exact hk.elim

def keyL : List (List UInt8) := [[97], [98, 46, 99], [112, 97, 116, 104], [117, 105, 100], [122, 122]]
def recAt (c : List UInt8) (j : Nat) : List UInt8 × List UInt8 := (keyL.getD ((c.getD (2 * j) 0).toNat % 5) [], vO (c.getD (2 * j + 1) 0) ((c.getD (2 * j + 1) 0).toNat % 13))
def recsV (c : List UInt8) (m : Nat) : List (List UInt8 × List UInt8) := (List.range m).map (recAt c)
def recsF0 (s : St) : LS :=
  match s.get 0, s.get 1, s.get 5, s.get 6 with
  | .sl o .byte c, .i .i64 n, .nils, .i .i64 z => .req (z == 0 && decide (0 ≤ n) && decide (n < 100000)) (.out [.sl true GRec (recsV c (min (c.length / 2) n.toNat))] [])
  | _, _, _, _ => .stuck
def recsK0 : St → Tree := kl 61 [] [5] [4] recsF0
theorem recs_r0 (o : Bool) (c : List UInt8) (i n : Int) (l : List (List UInt8 × List UInt8)) (σ : List SO) : loopV 0 [0, 1, 5, 6] ([] ++ [5]) [4] (run Try.prog noT (lps [(2, recsK2)]) recsL0 ⟨mk 61 ([0, 1, 5, 6].zip [.sl o .byte c, .i .i64 n, .sl true GRec l, .i .i64 i]), σ, [], []⟩) =
  LV.req (inRb IntKind.i64 (i + (1 : Int)))
    (LV.req (inRb IntKind.i64 ((2 : Int) * n) || !decide (i + (1 : Int) < toI c.length))
      (LV.ite (decide (i + (1 : Int) < toI c.length) && decide (i < (2 : Int) * n))
        (LV.req (decide ((0 : Int) ≤ i) && decide (i + (1 : Int) < toI c.length) && decide (i < (1000000 : Int)))
          (LV.req (decide ((0 : Int) ≤ i) && decide (i < toI c.length))
            (LV.req (decide (i.toNat < c.length))
              (LV.req true
                (LV.req
                  (decide ((0 : Int) ≤ toI (c.getD i.toNat (0 : UInt8) % (5 : UInt8)).toNat) &&
                    decide (toI (c.getD i.toNat (0 : UInt8) % (5 : UInt8)).toNat < (5 : Int)))
                  (LV.req (decide ((toI (c.getD i.toNat (0 : UInt8) % (5 : UInt8)).toNat).toNat < (5 : Nat)))
                    (LV.req
                      (decide
                          ((2 : Nat) *
                                (l.length +
                                  [([[(97 : UInt8)], [(98 : UInt8), (46 : UInt8), (99 : UInt8)],
                                              [(112 : UInt8), (97 : UInt8), (116 : UInt8), (104 : UInt8)],
                                              [(117 : UInt8), (105 : UInt8), (100 : UInt8)],
                                              [(122 : UInt8), (122 : UInt8)]].getD
                                          (toI (c.getD i.toNat (0 : UInt8) % (5 : UInt8)).toNat).toNat [],
                                        vO (c.getD (i + (1 : Int)).toNat (0 : GT.byte.T))
                                          (UInt8.toNat (c.getD (i + (1 : Int)).toNat (0 : GT.byte.T)) %
                                            (13 : Nat)))].length) *
                              (32 : Nat) ≤
                            (281474976710656 : Nat)) &&
                        decide
                          (l.length +
                              [([[(97 : UInt8)], [(98 : UInt8), (46 : UInt8), (99 : UInt8)],
                                          [(112 : UInt8), (97 : UInt8), (116 : UInt8), (104 : UInt8)],
                                          [(117 : UInt8), (105 : UInt8), (100 : UInt8)],
                                          [(122 : UInt8), (122 : UInt8)]].getD
                                      (toI (c.getD i.toNat (0 : UInt8) % (5 : UInt8)).toNat).toNat [],
                                    vO (c.getD (i + (1 : Int)).toNat (0 : GT.byte.T))
                                      (UInt8.toNat (c.getD (i + (1 : Int)).toNat (0 : GT.byte.T)) % (13 : Nat)))].length ≤
                            (281474976710656 : Nat)))
                      (LV.req (inRb IntKind.i64 (i + (2 : Int)))
                        (LV.cont
                          [SV.sl o GT.byte c, SV.i IntKind.i64 n,
                            SV.sl true (GT.str.pair GT.str)
                              (l ++
                                [([[(97 : UInt8)], [(98 : UInt8), (46 : UInt8), (99 : UInt8)],
                                          [(112 : UInt8), (97 : UInt8), (116 : UInt8), (104 : UInt8)],
                                          [(117 : UInt8), (105 : UInt8), (100 : UInt8)],
                                          [(122 : UInt8), (122 : UInt8)]].getD
                                      (toI (c.getD i.toNat (0 : UInt8) % (5 : UInt8)).toNat).toNat [],
                                    vO (c.getD (i + (1 : Int)).toNat (0 : GT.byte.T))
                                      (UInt8.toNat (c.getD (i + (1 : Int)).toNat (0 : GT.byte.T)) % (13 : Nat)))]),
                            SV.i IntKind.i64 (i + (2 : Int))]
                          σ)))))))))
        (LV.out [SV.sl true (GT.str.pair GT.str) l] σ))) := by kernel_rfl
theorem recsL0_ok : LoopF Try.prog plainR 0 (.loop recsL0) recsK0 := loopF (ins := [0, 1, 5, 6]) Try.follows noT_ok (lps_ag _ fun p hp s => by simp only [List.mem_singleton] at hp; subst hp; exact kl_ag _ _ _ _ _ s) (blk1 (show findAll 2 recsL0 = [.loop recsL2] by kernel_rfl) recsL2_ok) fun s hn hk => by
  unfold recsF0 at hk ⊢
  split at hk
  · rename_i o c n z h0 h1 h5 h6
    obtain ⟨hk, -⟩ := hk
    simp only [Bool.and_eq_true, decide_eq_true_eq, beq_iff_eq] at hk
    obtain ⟨⟨rfl, hn0⟩, hn1⟩ := hk
    obtain ⟨n, rfl⟩ := Int.eq_ofNat_of_zero_le hn0
    rw [Int.toNat_natCast]
    generalize hm : min (List.length c / 2) n = m
    refine ⟨{ α := Nat, inv := fun j => j ≤ m, μ := fun j => m - j, V := fun j => [.sl o .byte c, .i .i64 n, .sl true GRec (recsV c j), .i .i64 (2 * j : Nat)], J := fun _ => s.σ, x0 := 0, h0 := Nat.zero_le _, he := ?_, hJ := fun f => .refl f _, round := fun j hj => ?_ }⟩
    · simp only [gets, List.map_cons, List.map_nil, h0, h1, h5, h6]
      simp only [go_sem, Bool.and_eq_true, Bool.or_eq_true, Bool.and_eq_false_iff, Bool.or_eq_false_iff, decide_eq_true_eq, decide_eq_false_iff_not, beq_iff_eq, beq_eq_false_iff_ne, Bool.not_eq_true', Bool.not_eq_false', true_and, and_true, reduceCtorEq, Nat.reduceLT, Nat.reduceLeDiff, List.length_cons, List.length_nil, Nat.zero_add, Nat.reduceAdd]
      exact ⟨rfl, rfl⟩
    · rw [recs_r0]
      simp only [go_sem, Bool.and_eq_true, Bool.or_eq_true, Bool.and_eq_false_iff, Bool.or_eq_false_iff, decide_eq_true_eq, decide_eq_false_iff_not, beq_iff_eq, beq_eq_false_iff_ne, Bool.not_eq_true', Bool.not_eq_false', true_and, and_true, reduceCtorEq, Nat.reduceLT, Nat.reduceLeDiff, List.length_cons, List.length_nil, Nat.zero_add, Nat.reduceAdd]
      have h5 : (c.getD (2 * j) 0 % 5).toNat = (c.getD (2 * j) 0).toNat % 5 := by rw [UInt8.toNat_mod]; rfl
      have h51 : (c.getD (2 * j) 0).toNat % 5 < 5 := Nat.mod_lt _ (by omega)
      have hl : (recsV c j).length = j := by simp [recsV]
      have he : ((2 * j : Nat) + 1 : Int).toNat = 2 * j + 1 := by omega
      rw [h5, he, hl]
      refine ⟨by omega, by omega, fun hc => ⟨by omega, by omega, by omega, by omega, by omega, by omega, by omega, j + 1, by omega, by omega, ⟨?_, by omega⟩, fun _ => trivial⟩, fun hc => ⟨?_, fun _ => trivial⟩⟩
      · simp only [recsV, List.range_succ, List.map_append, List.map_cons, List.map_nil, recAt, keyL]
      · rw [show j = m by omega]
  · exact hk.elim

theorem recs_rt (c : List UInt8) (n : Int) : retT Try.prog Try.f18.results.toList (run Try.prog noT (lps [(0, recsK0)]) recsC ⟨[.sl false .byte c, .i .i64 n] ++ List.replicate (Try.f18.ntmps - 2) (.raw .u), [], [], []⟩) =
  RT.req (decide ((0 : Int) ≤ n) && decide (n < (100000 : Int)))
    (RT.val [SV.sl true (GT.str.pair GT.str) (recsV c (min (c.length / (2 : Nat)) n.toNat))]) := by kernel_rfl
def recsT (args : List SV) : VR :=
  match args with
  | [.sl false .byte c, .i .i64 n] => .req (decide (0 ≤ n) && decide (n < 100000)) (.sl false GRec (recsV c (min (c.length / 2) n.toNat)))
  | _ => .no
end Go.Proofs.Ytoofpdmdgofdcaa.L

namespace Go.Proofs.Ytoofpdmdgofdcaa.L
open Go Go.RowKit Go.Proofs.Ytoofpdmdgofdcaa.E Go.Proofs.Ytoofpdmdgofdcaa.X
set_option linter.unusedVariables false
set_option linter.unusedSimpArgs false
set_option maxRecDepth 100000
set_option maxHeartbeats 1000000

abbrev GPart : GT := .pair (.int .i64) (.int .i64)
def big08 : List Int := [2097151, 2097152, 8589934591, 8589934592, 1099511627776, -1, 4611686018427387904]
def num08 (c : UInt8) : Int := if 230 < c then big08.getD (c.toNat % 7) 0 else (c.toNat : Int)
theorem num08_le (c : UInt8) : -1 ≤ num08 c ∧ num08 c ≤ 4611686018427387904 := by
  unfold num08
  have := c.toNat_lt
  split
  · have h : c.toNat % 7 < 7 := Nat.mod_lt _ (by omega)
    generalize c.toNat % 7 = j at h
    match j, h with
    | 0, _ | 1, _ | 2, _ | 3, _ | 4, _ | 5, _ | 6, _ => decide
  · omega
def long08 : List UInt8 := [97, 32, 108, 111, 110, 103, 32, 110, 97, 109, 101, 44, 32, 111, 102, 32, 115, 111, 109, 101, 32, 102, 111, 114, 116, 121, 32, 98, 121, 116, 101, 115, 58, 32, 49, 50, 51, 52, 53, 54]
def name08 (c : UInt8) : List UInt8 := if c % 6 = 0 then [] else if c % 6 = 1 then [100, 105, 114, 47] else if c % 6 = 2 then long08 else if c % 6 = 3 then [195, 169] else [97 + c % 26]
theorem name08_le (c : UInt8) : (name08 c).length ≤ 40 := by
  unfold name08 long08
  split
  · simp
  · split
    · simp
    · split
      · simp
      · split <;> simp

/-! ### The three small ones -/
noncomputable def gC : Code := Try.f29.body.getD .skip
theorem g_rt (c : List UInt8) (i : Int) : retT Try.prog Try.f29.results.toList (run Try.prog noT noL gC ⟨[.sl false .byte c, .i .i64 i] ++ List.replicate (Try.f29.ntmps - List.length [SV.sl false .byte c, .i .i64 i]) (.raw .u), [], [], []⟩) =
  RT.ite (decide (i < toI c.length))
    (RT.req (decide ((0 : Int) ≤ i) && decide (i < toI c.length))
      (RT.req (decide (i.toNat < c.length)) (RT.val [SV.y (c.getD i.toNat (0 : UInt8))])))
    (RT.val [SV.y (0 : UInt8)]) := by kernel_rfl
theorem g_ok (c : List UInt8) (i : Int) (hi : 0 ≤ i) (f : Cx) (S : AState) : ACalls Try.prog G0 29 (SV.avs f [.sl false .byte c, .i .i64 i]) S (retIs ((SV.y (c.getD i.toNat 0)).av f) S) :=
  contract (rvs := [.y (c.getD i.toNat 0)]) Try.follows noT_ok noL_ag Try.func29 (show _ = some gC by kernel_rfl) (by rfl) (by decide) (blk_none _) rfl (by
    rw [g_rt]
    simp only [go_sem, Bool.and_eq_true, Bool.or_eq_true, Bool.and_eq_false_iff, Bool.or_eq_false_iff, decide_eq_true_eq, decide_eq_false_iff_not, beq_iff_eq, beq_eq_false_iff_ne, Bool.not_eq_true', Bool.not_eq_false', true_and, and_true, reduceCtorEq, Nat.reduceLT, Nat.reduceLeDiff, List.length_cons, List.length_nil, Nat.zero_add, Nat.reduceAdd]
    refine ⟨fun h => ⟨by omega, by omega⟩, fun h => ?_⟩
    rw [List.getD_eq_getElem?_getD, List.getElem?_eq_none (by omega)]
    rfl) f (fun g => rfl) S
noncomputable def numC : Code := Try.f30.body.getD .skip
theorem num_rt (c : UInt8) : retT Try.prog Try.f30.results.toList (run Try.prog noT noL numC ⟨[.y c] ++ List.replicate (Try.f30.ntmps - List.length [SV.y c]) (.raw .u), [], [], []⟩) =
  RT.ite (decide ((230 : UInt8) < c))
    (RT.req true
      (RT.req (decide ((0 : Int) ≤ toI (c % (7 : UInt8)).toNat) && decide (toI (c % (7 : UInt8)).toNat < (7 : Int)))
        (RT.req (decide ((toI (c % (7 : UInt8)).toNat).toNat < (7 : Nat)))
          (RT.val
            [SV.i IntKind.i64
                ([(2097151 : Int), (2097152 : Int), (8589934591 : Int), (8589934592 : Int), (1099511627776 : Int),
                      (-1 : Int), (4611686018427387904 : Int)].getD
                  (toI (c % (7 : UInt8)).toNat).toNat (0 : Int))]))))
    (RT.val [SV.i IntKind.i64 (toI c.toNat)]) := by kernel_rfl
theorem num_ok (c : UInt8) (f : Cx) (S : AState) : ACalls Try.prog G0 30 (SV.avs f [.y c]) S (retIs ((SV.i .i64 (num08 c)).av f) S) :=
  contract (rvs := [.i .i64 (num08 c)]) Try.follows noT_ok noL_ag Try.func30 (show _ = some numC by kernel_rfl) (by rfl) (by decide) (blk_none _) rfl (by
    rw [num_rt]
    have h7 : (c % 7).toNat = c.toNat % 7 := by rw [UInt8.toNat_mod]; rfl
    have h8 : c.toNat % 7 < 7 := Nat.mod_lt _ (by omega)
    simp only [h7, go_sem, Bool.and_eq_true, Bool.or_eq_true, Bool.and_eq_false_iff, Bool.or_eq_false_iff, decide_eq_true_eq, decide_eq_false_iff_not, beq_iff_eq, beq_eq_false_iff_ne, Bool.not_eq_true', Bool.not_eq_false', true_and, and_true, reduceCtorEq, Nat.reduceLT, Nat.reduceLeDiff, List.length_cons, List.length_nil, Nat.zero_add, Nat.reduceAdd]
    refine ⟨fun h => ⟨by omega, by omega, ?_⟩, fun h => ?_⟩
    · simp only [num08, h, if_true, big08]
    · simp only [num08, h, if_false]) f (fun g => rfl) S
noncomputable def nameC : Code := Try.f28.body.getD .skip
theorem name_rt (c : UInt8) : retT Try.prog Try.f28.results.toList (run Try.prog noT noL nameC ⟨[.y c] ++ List.replicate (Try.f28.ntmps - List.length [SV.y c]) (.raw .u), [], [], []⟩) =
  RT.req true
    (RT.ite (c % (6 : UInt8) == (0 : UInt8)) (RT.val [SV.s []])
      (RT.ite (c % (6 : UInt8) == (1 : UInt8)) (RT.val [SV.s [(100 : UInt8), (105 : UInt8), (114 : UInt8), (47 : UInt8)]])
        (RT.ite (c % (6 : UInt8) == (2 : UInt8))
          (RT.val
            [SV.s
                [(97 : UInt8), (32 : UInt8), (108 : UInt8), (111 : UInt8), (110 : UInt8), (103 : UInt8), (32 : UInt8),
                  (110 : UInt8), (97 : UInt8), (109 : UInt8), (101 : UInt8), (44 : UInt8), (32 : UInt8), (111 : UInt8),
                  (102 : UInt8), (32 : UInt8), (115 : UInt8), (111 : UInt8), (109 : UInt8), (101 : UInt8), (32 : UInt8),
                  (102 : UInt8), (111 : UInt8), (114 : UInt8), (116 : UInt8), (121 : UInt8), (32 : UInt8), (98 : UInt8),
                  (121 : UInt8), (116 : UInt8), (101 : UInt8), (115 : UInt8), (58 : UInt8), (32 : UInt8), (49 : UInt8),
                  (50 : UInt8), (51 : UInt8), (52 : UInt8), (53 : UInt8), (54 : UInt8)]])
          (RT.ite (c % (6 : UInt8) == (3 : UInt8)) (RT.val [SV.s [(195 : UInt8), (169 : UInt8)]])
            (RT.req true (RT.req true (RT.val [SV.s [(97 : UInt8) + c % (26 : UInt8)]]))))))) := by kernel_rfl
theorem name_ok (c : UInt8) (f : Cx) (S : AState) : ACalls Try.prog G0 28 (SV.avs f [.y c]) S (retIs ((SV.s (name08 c)).av f) S) :=
  contract (rvs := [.s (name08 c)]) Try.follows noT_ok noL_ag Try.func28 (show _ = some nameC by kernel_rfl) (by rfl) (by decide) (blk_none _) rfl (by
    rw [name_rt]
    unfold name08 long08
    simp only [go_sem, Bool.and_eq_true, Bool.or_eq_true, Bool.and_eq_false_iff, Bool.or_eq_false_iff, decide_eq_true_eq, decide_eq_false_iff_not, beq_iff_eq, beq_eq_false_iff_ne, Bool.not_eq_true', Bool.not_eq_false', true_and, and_true, reduceCtorEq, Nat.reduceLT, Nat.reduceLeDiff, List.length_cons, List.length_nil, Nat.zero_add, Nat.reduceAdd]
    refine ⟨fun h => ?_, fun h => ⟨fun h1 => ?_, fun h1 => ⟨fun h2 => ?_, fun h2 => ⟨fun h3 => ?_, fun h3 => ?_⟩⟩⟩⟩ <;> simp_all) f (fun g => rfl) S

def T08 : Tab := withT (withT (withT noT 29 fun args => match args with
    | [.sl false .byte c, .i .i64 i] => .req (decide (0 ≤ i)) (.y (c.getD i.toNat 0))
    | _ => .no) 30 fun args => match args with
    | [.y c] => .val (.i .i64 (num08 c))
    | _ => .no) 28 fun args => match args with
    | [.y c] => .val (.s (name08 c))
    | _ => .no
theorem T08_ok : TabOK Try.prog T08 := by
  refine withT_ok (withT_ok (withT_ok noT_ok ?_) ?_) ?_
  · intro args f S v h
    split at h
    · rcases h with h | h
      · cases h
      · obtain ⟨h1, h2⟩ := VR.req.inj h
        subst h2
        exact g_ok _ _ (by simpa using h1) f S
    · rcases h with h | h <;> cases h
  · intro args f S v h
    split at h
    · rcases h with h | h
      · cases h
        exact num_ok _ f S
      · cases h
    · rcases h with h | h <;> cases h
  · intro args f S v h
    split at h
    · rcases h with h | h
      · cases h
        exact name_ok _ f S
      · cases h
    · rcases h with h | h <;> cases h

/-! ### The header -/
noncomputable def hdrC : Code := Try.f17.body.getD .skip
noncomputable def hdrL0 : Code := lbody 0 hdrC
def partAt (c : List UInt8) (j : Nat) : Int × Int := (512 * (j : Int), 1 + num08 (c.getD (10 + j) 0))
def partsV (c : List UInt8) (m : Nat) : List (Int × Int) := (List.range m).map (partAt c)
def hdrF0 (s : St) : LS :=
  match s.get 0, s.get 2, s.get 4, s.get 5, s.σ with
  | .sl o .byte c, .pm 0 0, .pm 1 0, .i .i64 i, [.cells [.s z0, .i .i64 z1, .i .i64 z2, .i .i64 z3, .i .i64 z4, .i .i64 z5, .y z6, .s z7, .i .i64 z8, .s z9, .s z10, .i .i64 z11, .i .i64 z12, .s z13, .nils, .ff, .i .i64 z16], .cells [.s n0, .i .i64 n1, .i .i64 n2, .i .i64 n3, .i .i64 n4, .i .i64 n5, .y n6, .s n7, .i .i64 n8, .s n9, .s n10, .i .i64 n11, .i .i64 n12, .s n13, .nils, .ff, .i .i64 n16]] => .req (i == 0) (.out [] [.cell 1 14 (.sl true GPart (partsV c ((c.getD 9 0).toNat % 5)))])
  | _, _, _, _, _ => .stuck
def hdrK0 : St → Tree := kl 115 [0, 2, 4] [] [2] hdrF0
theorem hdr_r0 (o : Bool) (c : List UInt8) (i : Int) (l : List (Int × Int)) (z0 z7 z9 z10 z13 n0 n7 n9 n10 n13 : List UInt8) (z6 n6 : UInt8) (z1 z2 z3 z4 z5 z8 z11 z12 z16 n1 n2 n3 n4 n5 n8 n11 n12 n16 : Int) : loopV 0 [0, 2, 4, 5] ([0, 2, 4] ++ []) [2] (run Try.prog T08 noL hdrL0 ⟨mk 115 ([0, 2, 4, 5].zip [.sl o .byte c, .pm 0 0, .pm 1 0, .i .i64 i]), [.cells [.s z0, .i .i64 z1, .i .i64 z2, .i .i64 z3, .i .i64 z4, .i .i64 z5, .y z6, .s z7, .i .i64 z8, .s z9, .s z10, .i .i64 z11, .i .i64 z12, .s z13, .nils, .ff, .i .i64 z16], .cells [.s n0, .i .i64 n1, .i .i64 n2, .i .i64 n3, .i .i64 n4, .i .i64 n5, .y n6, .s n7, .i .i64 n8, .s n9, .s n10, .i .i64 n11, .i .i64 n12, .s n13, .sl true GPart l, .ff, .i .i64 n16]], [], []⟩) =
  LV.req true
    (LV.req true
      (LV.ite (decide (i < toI (c.getD (9 : Nat) (0 : GT.byte.T) % (5 : UInt8)).toNat))
        (LV.req (inRb IntKind.i64 ((512 : Int) * i))
          (LV.req (inRb IntKind.i64 ((10 : Int) + i))
            (LV.req (decide ((0 : Int) ≤ (10 : Int) + i))
              (LV.req (inRb IntKind.i64 ((1 : Int) + num08 (c.getD ((10 : Int) + i).toNat (0 : GT.byte.T))))
                (LV.req
                  (decide
                      ((2 : Nat) *
                            (l.length +
                              [((512 : Int) * i,
                                    (1 : Int) + num08 (c.getD ((10 : Int) + i).toNat (0 : GT.byte.T)))].length) *
                          (16 : Nat) ≤
                        (281474976710656 : Nat)) &&
                    decide
                      (l.length +
                          [((512 : Int) * i, (1 : Int) + num08 (c.getD ((10 : Int) + i).toNat (0 : GT.byte.T)))].length ≤
                        (281474976710656 : Nat)))
                  (LV.req (inRb IntKind.i64 (i + (1 : Int)))
                    (LV.cont
                      [SV.sl o GT.byte c, SV.pm (0 : Nat) (0 : Nat), SV.pm (1 : Nat) (0 : Nat),
                        SV.i IntKind.i64 (i + (1 : Int))]
                      [SO.cells
                          [SV.s z0, SV.i IntKind.i64 z1, SV.i IntKind.i64 z2, SV.i IntKind.i64 z3, SV.i IntKind.i64 z4,
                            SV.i IntKind.i64 z5, SV.y z6, SV.s z7, SV.i IntKind.i64 z8, SV.s z9, SV.s z10,
                            SV.i IntKind.i64 z11, SV.i IntKind.i64 z12, SV.s z13, SV.nils, SV.ff, SV.i IntKind.i64 z16],
                        SO.cells
                          [SV.s n0, SV.i IntKind.i64 n1, SV.i IntKind.i64 n2, SV.i IntKind.i64 n3, SV.i IntKind.i64 n4,
                            SV.i IntKind.i64 n5, SV.y n6, SV.s n7, SV.i IntKind.i64 n8, SV.s n9, SV.s n10,
                            SV.i IntKind.i64 n11, SV.i IntKind.i64 n12, SV.s n13,
                            SV.sl true ((GT.int IntKind.i64).pair (GT.int IntKind.i64))
                              (l ++
                                [((512 : Int) * i, (1 : Int) + num08 (c.getD ((10 : Int) + i).toNat (0 : GT.byte.T)))]),
                            SV.ff, SV.i IntKind.i64 n16]])))))))
        (LV.out [SV.sl o GT.byte c, SV.pm (0 : Nat) (0 : Nat), SV.pm (1 : Nat) (0 : Nat)]
          [SO.cells
              [SV.s z0, SV.i IntKind.i64 z1, SV.i IntKind.i64 z2, SV.i IntKind.i64 z3, SV.i IntKind.i64 z4,
                SV.i IntKind.i64 z5, SV.y z6, SV.s z7, SV.i IntKind.i64 z8, SV.s z9, SV.s z10, SV.i IntKind.i64 z11,
                SV.i IntKind.i64 z12, SV.s z13, SV.nils, SV.ff, SV.i IntKind.i64 z16],
            SO.cells
              [SV.s n0, SV.i IntKind.i64 n1, SV.i IntKind.i64 n2, SV.i IntKind.i64 n3, SV.i IntKind.i64 n4,
                SV.i IntKind.i64 n5, SV.y n6, SV.s n7, SV.i IntKind.i64 n8, SV.s n9, SV.s n10, SV.i IntKind.i64 n11,
                SV.i IntKind.i64 n12, SV.s n13, SV.sl true ((GT.int IntKind.i64).pair (GT.int IntKind.i64)) l, SV.ff,
                SV.i IntKind.i64 n16]]))) := by kernel_rfl
theorem hdrL0_ok : LoopF Try.prog plainR 0 (.loop hdrL0) hdrK0 := loopF (ins := [0, 2, 4, 5]) Try.follows T08_ok noL_ag (blk_none _) fun s hn hk => by
  unfold hdrF0 at hk ⊢
  split at hk
  · rename_i o c i z0 z1 z2 z3 z4 z5 z6 z7 z8 z9 z10 z11 z12 z13 z16 n0 n1 n2 n3 n4 n5 n6 n7 n8 n9 n10 n11 n12 n13 n16 h0 h2 h4 h5 hσ
    obtain ⟨hk, -⟩ := hk
    rw [beq_iff_eq] at hk
    subst hk
    have hm5 : (c.getD 9 0 % 5).toNat = (c.getD 9 0).toNat % 5 := by rw [UInt8.toNat_mod]; rfl
    have hm6 : (c.getD 9 0).toNat % 5 < 5 := Nat.mod_lt _ (by omega)
    generalize (c.getD 9 0).toNat % 5 = m at hm5 hm6
    refine ⟨{ α := Nat, inv := fun j => j ≤ m, μ := fun j => m - j, V := fun j => [.sl o .byte c, .pm 0 0, .pm 1 0, .i .i64 j], J := fun j => [.cells [.s z0, .i .i64 z1, .i .i64 z2, .i .i64 z3, .i .i64 z4, .i .i64 z5, .y z6, .s z7, .i .i64 z8, .s z9, .s z10, .i .i64 z11, .i .i64 z12, .s z13, .nils, .ff, .i .i64 z16], .cells [.s n0, .i .i64 n1, .i .i64 n2, .i .i64 n3, .i .i64 n4, .i .i64 n5, .y n6, .s n7, .i .i64 n8, .s n9, .s n10, .i .i64 n11, .i .i64 n12, .s n13, .sl true GPart (partsV c j), .ff, .i .i64 n16]], x0 := 0, h0 := Nat.zero_le _, he := ?_, hJ := fun f => sleO_ok f ?_, round := fun j hj => ?_ }⟩
    · simp only [gets, List.map_cons, List.map_nil, h0, h2, h4, h5]
      simp only [go_sem, Bool.and_eq_true, Bool.or_eq_true, Bool.and_eq_false_iff, Bool.or_eq_false_iff, decide_eq_true_eq, decide_eq_false_iff_not, beq_iff_eq, beq_eq_false_iff_ne, Bool.not_eq_true', Bool.not_eq_false', true_and, and_true, reduceCtorEq, Nat.reduceLT, Nat.reduceLeDiff, List.length_cons, List.length_nil, Nat.zero_add, Nat.reduceAdd]
      rfl
    · rw [hσ]
      simp only [go_sem, Bool.and_eq_true, Bool.or_eq_true, Bool.and_eq_false_iff, Bool.or_eq_false_iff, decide_eq_true_eq, decide_eq_false_iff_not, beq_iff_eq, beq_eq_false_iff_ne, Bool.not_eq_true', Bool.not_eq_false', true_and, and_true, reduceCtorEq, Nat.reduceLT, Nat.reduceLeDiff, List.length_cons, List.length_nil, Nat.zero_add, Nat.reduceAdd]
      rfl
    · rw [hdr_r0]
      have hn := num08_le (c.getD (10 + j) 0)
      have hl : (partsV c j).length = j := by simp [partsV]
      have he : ((10 : Int) + (j : Int)).toNat = 10 + j := by omega
      have hs : partsV c j ++ [((512 : Int) * (j : Int), (1 : Int) + num08 (c.getD (10 + j) 0))] = partsV c (j + 1) := by simp [partsV, List.range_succ, partAt]
      rw [he, hs]
      simp only [hm5, hl, h0, h2, h4, hσ, go_sem, Bool.and_eq_true, Bool.or_eq_true, Bool.and_eq_false_iff, Bool.or_eq_false_iff, decide_eq_true_eq, decide_eq_false_iff_not, beq_iff_eq, beq_eq_false_iff_ne, Bool.not_eq_true', Bool.not_eq_false', true_and, and_true, reduceCtorEq, Nat.reduceLT, Nat.reduceLeDiff, List.length_cons, List.length_nil, Nat.zero_add, Nat.reduceAdd]
      refine ⟨fun h => ⟨by omega, by omega, by omega, by omega, by omega, by omega, j + 1, by omega, by omega, rfl, fun f => sleO_ok f ?_⟩, fun h => ?_⟩
      · simp only [go_sem, Bool.and_eq_true, Bool.or_eq_true, Bool.and_eq_false_iff, Bool.or_eq_false_iff, decide_eq_true_eq, decide_eq_false_iff_not, beq_iff_eq, beq_eq_false_iff_ne, Bool.not_eq_true', Bool.not_eq_false', true_and, and_true, reduceCtorEq, Nat.reduceLT, Nat.reduceLeDiff, List.length_cons, List.length_nil, Nat.zero_add, Nat.reduceAdd]
      · rw [show j = m by omega]
        exact fun f => .refl _ _
  · exact hk.elim
end Go.Proofs.Ytoofpdmdgofdcaa.L

namespace Go.Proofs.Ytoofpdmdgofdcaa.L
open Go Go.RowKit Go.Proofs.Ytoofpdmdgofdcaa.E Go.Proofs.Ytoofpdmdgofdcaa.X
set_option linter.unusedVariables false
set_option linter.unusedSimpArgs false
set_option maxRecDepth 100000
set_option maxHeartbeats 1000000
noncomputable def hdrT (c : List UInt8) : RT := retT Try.prog Try.f17.results.toList (run Try.prog T08 (lps [(0, hdrK0)]) hdrC ⟨[.sl false .byte c] ++ List.replicate (Try.f17.ntmps - List.length [SV.sl false .byte c]) (.raw .u), [], [], []⟩)
def valsOf : RT → List SV
  | .val vs => vs
  | .req _ t => valsOf t
  | _ => []
def cellsOf1 : List SV → List SV
  | [.agg cs] => cs
  | _ => []
noncomputable def hdCells (c : List UInt8) : List SV := cellsOf1 (valsOf (hdrT c))
theorem hdr_rt (c : List UInt8) : retT Try.prog Try.f17.results.toList (run Try.prog T08 (lps [(0, hdrK0)]) hdrC ⟨[.sl false .byte c] ++ List.replicate (Try.f17.ntmps - List.length [SV.sl false .byte c]) (.raw .u), [], [], []⟩) =
  RT.req true
    (RT.req true
      (RT.req true
        (RT.req true
          (RT.req true
            (RT.req true
              (RT.req true
                (RT.req true
                  (RT.req
                    (decide ((0 : Int) ≤ toI (c.getD (6 : Nat) (0 : GT.byte.T) % (13 : UInt8)).toNat) &&
                      decide (toI (c.getD (6 : Nat) (0 : GT.byte.T) % (13 : UInt8)).toNat < (14 : Int)))
                    (RT.req (decide ((toI (c.getD (6 : Nat) (0 : GT.byte.T) % (13 : UInt8)).toNat).toNat < (14 : Nat)))
                      (RT.req true
                        (RT.req true
                          (RT.req true
                            (RT.req true
                              (RT.req true
                                (RT.req true
                                  (RT.req true
                                    (RT.req true
                                      (RT.req true
                                        (RT.val
                                          [SV.agg
                                              [SV.s (name08 (c.getD (0 : Nat) (0 : GT.byte.T))),
                                                SV.i IntKind.i64 (num08 (c.getD (1 : Nat) (0 : GT.byte.T))),
                                                SV.i IntKind.i64 (num08 (c.getD (2 : Nat) (0 : GT.byte.T))),
                                                SV.i IntKind.i64 (num08 (c.getD (3 : Nat) (0 : GT.byte.T))),
                                                SV.i IntKind.i64 (num08 (c.getD (4 : Nat) (0 : GT.byte.T))),
                                                SV.i IntKind.i64 (num08 (c.getD (5 : Nat) (0 : GT.byte.T))),
                                                SV.y
                                                  (bif decide ((250 : UInt8) < c.getD (6 : Nat) (0 : GT.byte.T)) then
                                                    (122 : UInt8)
                                                  else
                                                    [(48 : UInt8), (49 : UInt8), (50 : UInt8), (51 : UInt8), (52 : UInt8),
                                                          (53 : UInt8), (54 : UInt8), (55 : UInt8), (120 : UInt8),
                                                          (103 : UInt8), (76 : UInt8), (75 : UInt8), (83 : UInt8),
                                                          (122 : UInt8)].getD
                                                      (toI (c.getD (6 : Nat) (0 : GT.byte.T) % (13 : UInt8)).toNat).toNat
                                                      (0 : UInt8)),
                                                SV.s (name08 (c.getD (7 : Nat) (0 : GT.byte.T))),
                                                SV.i IntKind.i64
                                                  (bif
                                                      (bif decide ((250 : UInt8) < c.getD (6 : Nat) (0 : GT.byte.T)) then
                                                          (122 : UInt8)
                                                        else
                                                          [(48 : UInt8), (49 : UInt8), (50 : UInt8), (51 : UInt8),
                                                                (52 : UInt8), (53 : UInt8), (54 : UInt8), (55 : UInt8),
                                                                (120 : UInt8), (103 : UInt8), (76 : UInt8), (75 : UInt8),
                                                                (83 : UInt8), (122 : UInt8)].getD
                                                            (toI
                                                                (c.getD (6 : Nat) (0 : GT.byte.T) %
                                                                    (13 : UInt8)).toNat).toNat
                                                            (0 : UInt8)) ==
                                                        (83 : UInt8) then
                                                    (2 : Int)
                                                  else toI (c.getD (8 : Nat) (0 : GT.byte.T) % (3 : UInt8)).toNat),
                                                SV.s
                                                  (bif
                                                      decide
                                                          ((0 : Int) <
                                                            bif
                                                                (bif
                                                                      decide
                                                                        ((250 : UInt8) <
                                                                          c.getD (6 : Nat) (0 : GT.byte.T)) then
                                                                    (122 : UInt8)
                                                                  else
                                                                    [(48 : UInt8), (49 : UInt8), (50 : UInt8),
                                                                          (51 : UInt8), (52 : UInt8), (53 : UInt8),
                                                                          (54 : UInt8), (55 : UInt8), (120 : UInt8),
                                                                          (103 : UInt8), (76 : UInt8), (75 : UInt8),
                                                                          (83 : UInt8), (122 : UInt8)].getD
                                                                      (toI
                                                                          (c.getD (6 : Nat) (0 : GT.byte.T) %
                                                                              (13 : UInt8)).toNat).toNat
                                                                      (0 : UInt8)) ==
                                                                  (83 : UInt8) then
                                                              (2 : Int)
                                                            else
                                                              toI
                                                                (c.getD (8 : Nat) (0 : GT.byte.T) % (3 : UInt8)).toNat) ||
                                                        decide ((240 : UInt8) < c.getD (8 : Nat) (0 : GT.byte.T)) then
                                                    name08 (c.getD (15 : Nat) (0 : GT.byte.T))
                                                  else []),
                                                SV.s
                                                  (bif
                                                      decide
                                                          ((0 : Int) <
                                                            bif
                                                                (bif
                                                                      decide
                                                                        ((250 : UInt8) <
                                                                          c.getD (6 : Nat) (0 : GT.byte.T)) then
                                                                    (122 : UInt8)
                                                                  else
                                                                    [(48 : UInt8), (49 : UInt8), (50 : UInt8),
                                                                          (51 : UInt8), (52 : UInt8), (53 : UInt8),
                                                                          (54 : UInt8), (55 : UInt8), (120 : UInt8),
                                                                          (103 : UInt8), (76 : UInt8), (75 : UInt8),
                                                                          (83 : UInt8), (122 : UInt8)].getD
                                                                      (toI
                                                                          (c.getD (6 : Nat) (0 : GT.byte.T) %
                                                                              (13 : UInt8)).toNat).toNat
                                                                      (0 : UInt8)) ==
                                                                  (83 : UInt8) then
                                                              (2 : Int)
                                                            else
                                                              toI
                                                                (c.getD (8 : Nat) (0 : GT.byte.T) % (3 : UInt8)).toNat) ||
                                                        decide ((240 : UInt8) < c.getD (8 : Nat) (0 : GT.byte.T)) then
                                                    name08 (c.getD (16 : Nat) (0 : GT.byte.T))
                                                  else []),
                                                SV.i IntKind.i64
                                                  (bif
                                                      decide
                                                          ((0 : Int) <
                                                            bif
                                                                (bif
                                                                      decide
                                                                        ((250 : UInt8) <
                                                                          c.getD (6 : Nat) (0 : GT.byte.T)) then
                                                                    (122 : UInt8)
                                                                  else
                                                                    [(48 : UInt8), (49 : UInt8), (50 : UInt8),
                                                                          (51 : UInt8), (52 : UInt8), (53 : UInt8),
                                                                          (54 : UInt8), (55 : UInt8), (120 : UInt8),
                                                                          (103 : UInt8), (76 : UInt8), (75 : UInt8),
                                                                          (83 : UInt8), (122 : UInt8)].getD
                                                                      (toI
                                                                          (c.getD (6 : Nat) (0 : GT.byte.T) %
                                                                              (13 : UInt8)).toNat).toNat
                                                                      (0 : UInt8)) ==
                                                                  (83 : UInt8) then
                                                              (2 : Int)
                                                            else
                                                              toI
                                                                (c.getD (8 : Nat) (0 : GT.byte.T) % (3 : UInt8)).toNat) ||
                                                        decide ((240 : UInt8) < c.getD (8 : Nat) (0 : GT.byte.T)) then
                                                    (num08 (c.getD (17 : Nat) (0 : GT.byte.T))).tmod (4000000 : Int)
                                                  else (0 : Int)),
                                                SV.i IntKind.i64
                                                  (bif
                                                      decide
                                                          ((0 : Int) <
                                                            bif
                                                                (bif
                                                                      decide
                                                                        ((250 : UInt8) <
                                                                          c.getD (6 : Nat) (0 : GT.byte.T)) then
                                                                    (122 : UInt8)
                                                                  else
                                                                    [(48 : UInt8), (49 : UInt8), (50 : UInt8),
                                                                          (51 : UInt8), (52 : UInt8), (53 : UInt8),
                                                                          (54 : UInt8), (55 : UInt8), (120 : UInt8),
                                                                          (103 : UInt8), (76 : UInt8), (75 : UInt8),
                                                                          (83 : UInt8), (122 : UInt8)].getD
                                                                      (toI
                                                                          (c.getD (6 : Nat) (0 : GT.byte.T) %
                                                                              (13 : UInt8)).toNat).toNat
                                                                      (0 : UInt8)) ==
                                                                  (83 : UInt8) then
                                                              (2 : Int)
                                                            else
                                                              toI
                                                                (c.getD (8 : Nat) (0 : GT.byte.T) % (3 : UInt8)).toNat) ||
                                                        decide ((240 : UInt8) < c.getD (8 : Nat) (0 : GT.byte.T)) then
                                                    toI (UInt8.toNat (c.getD (18 : Nat) (0 : GT.byte.T)))
                                                  else (0 : Int)),
                                                SV.s
                                                  (bif
                                                      (bif
                                                              (bif
                                                                    decide
                                                                      ((250 : UInt8) <
                                                                        c.getD (6 : Nat) (0 : GT.byte.T)) then
                                                                  (122 : UInt8)
                                                                else
                                                                  [(48 : UInt8), (49 : UInt8), (50 : UInt8), (51 : UInt8),
                                                                        (52 : UInt8), (53 : UInt8), (54 : UInt8),
                                                                        (55 : UInt8), (120 : UInt8), (103 : UInt8),
                                                                        (76 : UInt8), (75 : UInt8), (83 : UInt8),
                                                                        (122 : UInt8)].getD
                                                                    (toI
                                                                        (c.getD (6 : Nat) (0 : GT.byte.T) %
                                                                            (13 : UInt8)).toNat).toNat
                                                                    (0 : UInt8)) ==
                                                                (83 : UInt8) then
                                                            (2 : Int)
                                                          else
                                                            toI (c.getD (8 : Nat) (0 : GT.byte.T) % (3 : UInt8)).toNat) ==
                                                          (1 : Int) ||
                                                        decide ((250 : UInt8) < c.getD (8 : Nat) (0 : GT.byte.T)) then
                                                    name08 (c.getD (19 : Nat) (0 : GT.byte.T))
                                                  else []),
                                                SV.sl false ((GT.int IntKind.i64).pair (GT.int IntKind.i64))
                                                  (bif
                                                      (bif decide ((250 : UInt8) < c.getD (6 : Nat) (0 : GT.byte.T)) then
                                                          (122 : UInt8)
                                                        else
                                                          [(48 : UInt8), (49 : UInt8), (50 : UInt8), (51 : UInt8),
                                                                (52 : UInt8), (53 : UInt8), (54 : UInt8), (55 : UInt8),
                                                                (120 : UInt8), (103 : UInt8), (76 : UInt8), (75 : UInt8),
                                                                (83 : UInt8), (122 : UInt8)].getD
                                                            (toI
                                                                (c.getD (6 : Nat) (0 : GT.byte.T) %
                                                                    (13 : UInt8)).toNat).toNat
                                                            (0 : UInt8)) ==
                                                        (83 : UInt8) then
                                                    partsV c (UInt8.toNat (c.getD (9 : Nat) (0 : GT.byte.T)) % (5 : Nat))
                                                  else []),
                                                SV.b
                                                  ((bif decide ((250 : UInt8) < c.getD (6 : Nat) (0 : GT.byte.T)) then
                                                        (122 : UInt8)
                                                      else
                                                        [(48 : UInt8), (49 : UInt8), (50 : UInt8), (51 : UInt8),
                                                              (52 : UInt8), (53 : UInt8), (54 : UInt8), (55 : UInt8),
                                                              (120 : UInt8), (103 : UInt8), (76 : UInt8), (75 : UInt8),
                                                              (83 : UInt8), (122 : UInt8)].getD
                                                          (toI
                                                              (c.getD (6 : Nat) (0 : GT.byte.T) %
                                                                  (13 : UInt8)).toNat).toNat
                                                          (0 : UInt8)) ==
                                                      (83 : UInt8) &&
                                                    decide ((128 : UInt8) < c.getD (9 : Nat) (0 : GT.byte.T))),
                                                SV.i IntKind.i64
                                                  (bif
                                                      (bif decide ((250 : UInt8) < c.getD (6 : Nat) (0 : GT.byte.T)) then
                                                          (122 : UInt8)
                                                        else
                                                          [(48 : UInt8), (49 : UInt8), (50 : UInt8), (51 : UInt8),
                                                                (52 : UInt8), (53 : UInt8), (54 : UInt8), (55 : UInt8),
                                                                (120 : UInt8), (103 : UInt8), (76 : UInt8), (75 : UInt8),
                                                                (83 : UInt8), (122 : UInt8)].getD
                                                            (toI
                                                                (c.getD (6 : Nat) (0 : GT.byte.T) %
                                                                    (13 : UInt8)).toNat).toNat
                                                            (0 : UInt8)) ==
                                                        (83 : UInt8) then
                                                    num08 (c.getD (14 : Nat) (0 : GT.byte.T))
                                                  else (0 : Int))]]))))))))))))))))))) := by kernel_rfl
theorem hd_cells (c : List UInt8) : hdCells c =
  [SV.s (name08 (c.getD (0 : Nat) (0 : GT.byte.T))), SV.i IntKind.i64 (num08 (c.getD (1 : Nat) (0 : GT.byte.T))),
    SV.i IntKind.i64 (num08 (c.getD (2 : Nat) (0 : GT.byte.T))),
    SV.i IntKind.i64 (num08 (c.getD (3 : Nat) (0 : GT.byte.T))),
    SV.i IntKind.i64 (num08 (c.getD (4 : Nat) (0 : GT.byte.T))),
    SV.i IntKind.i64 (num08 (c.getD (5 : Nat) (0 : GT.byte.T))),
    SV.y
      (bif decide ((250 : UInt8) < c.getD (6 : Nat) (0 : GT.byte.T)) then (122 : UInt8)
      else
        [(48 : UInt8), (49 : UInt8), (50 : UInt8), (51 : UInt8), (52 : UInt8), (53 : UInt8), (54 : UInt8), (55 : UInt8),
              (120 : UInt8), (103 : UInt8), (76 : UInt8), (75 : UInt8), (83 : UInt8), (122 : UInt8)].getD
          (toI (c.getD (6 : Nat) (0 : GT.byte.T) % (13 : UInt8)).toNat).toNat (0 : UInt8)),
    SV.s (name08 (c.getD (7 : Nat) (0 : GT.byte.T))),
    SV.i IntKind.i64
      (bif
          (bif decide ((250 : UInt8) < c.getD (6 : Nat) (0 : GT.byte.T)) then (122 : UInt8)
            else
              [(48 : UInt8), (49 : UInt8), (50 : UInt8), (51 : UInt8), (52 : UInt8), (53 : UInt8), (54 : UInt8),
                    (55 : UInt8), (120 : UInt8), (103 : UInt8), (76 : UInt8), (75 : UInt8), (83 : UInt8),
                    (122 : UInt8)].getD
                (toI (c.getD (6 : Nat) (0 : GT.byte.T) % (13 : UInt8)).toNat).toNat (0 : UInt8)) ==
            (83 : UInt8) then
        (2 : Int)
      else toI (c.getD (8 : Nat) (0 : GT.byte.T) % (3 : UInt8)).toNat),
    SV.s
      (bif
          decide
              ((0 : Int) <
                bif
                    (bif decide ((250 : UInt8) < c.getD (6 : Nat) (0 : GT.byte.T)) then (122 : UInt8)
                      else
                        [(48 : UInt8), (49 : UInt8), (50 : UInt8), (51 : UInt8), (52 : UInt8), (53 : UInt8), (54 : UInt8),
                              (55 : UInt8), (120 : UInt8), (103 : UInt8), (76 : UInt8), (75 : UInt8), (83 : UInt8),
                              (122 : UInt8)].getD
                          (toI (c.getD (6 : Nat) (0 : GT.byte.T) % (13 : UInt8)).toNat).toNat (0 : UInt8)) ==
                      (83 : UInt8) then
                  (2 : Int)
                else toI (c.getD (8 : Nat) (0 : GT.byte.T) % (3 : UInt8)).toNat) ||
            decide ((240 : UInt8) < c.getD (8 : Nat) (0 : GT.byte.T)) then
        name08 (c.getD (15 : Nat) (0 : GT.byte.T))
      else []),
    SV.s
      (bif
          decide
              ((0 : Int) <
                bif
                    (bif decide ((250 : UInt8) < c.getD (6 : Nat) (0 : GT.byte.T)) then (122 : UInt8)
                      else
                        [(48 : UInt8), (49 : UInt8), (50 : UInt8), (51 : UInt8), (52 : UInt8), (53 : UInt8), (54 : UInt8),
                              (55 : UInt8), (120 : UInt8), (103 : UInt8), (76 : UInt8), (75 : UInt8), (83 : UInt8),
                              (122 : UInt8)].getD
                          (toI (c.getD (6 : Nat) (0 : GT.byte.T) % (13 : UInt8)).toNat).toNat (0 : UInt8)) ==
                      (83 : UInt8) then
                  (2 : Int)
                else toI (c.getD (8 : Nat) (0 : GT.byte.T) % (3 : UInt8)).toNat) ||
            decide ((240 : UInt8) < c.getD (8 : Nat) (0 : GT.byte.T)) then
        name08 (c.getD (16 : Nat) (0 : GT.byte.T))
      else []),
    SV.i IntKind.i64
      (bif
          decide
              ((0 : Int) <
                bif
                    (bif decide ((250 : UInt8) < c.getD (6 : Nat) (0 : GT.byte.T)) then (122 : UInt8)
                      else
                        [(48 : UInt8), (49 : UInt8), (50 : UInt8), (51 : UInt8), (52 : UInt8), (53 : UInt8), (54 : UInt8),
                              (55 : UInt8), (120 : UInt8), (103 : UInt8), (76 : UInt8), (75 : UInt8), (83 : UInt8),
                              (122 : UInt8)].getD
                          (toI (c.getD (6 : Nat) (0 : GT.byte.T) % (13 : UInt8)).toNat).toNat (0 : UInt8)) ==
                      (83 : UInt8) then
                  (2 : Int)
                else toI (c.getD (8 : Nat) (0 : GT.byte.T) % (3 : UInt8)).toNat) ||
            decide ((240 : UInt8) < c.getD (8 : Nat) (0 : GT.byte.T)) then
        (num08 (c.getD (17 : Nat) (0 : GT.byte.T))).tmod (4000000 : Int)
      else (0 : Int)),
    SV.i IntKind.i64
      (bif
          decide
              ((0 : Int) <
                bif
                    (bif decide ((250 : UInt8) < c.getD (6 : Nat) (0 : GT.byte.T)) then (122 : UInt8)
                      else
                        [(48 : UInt8), (49 : UInt8), (50 : UInt8), (51 : UInt8), (52 : UInt8), (53 : UInt8), (54 : UInt8),
                              (55 : UInt8), (120 : UInt8), (103 : UInt8), (76 : UInt8), (75 : UInt8), (83 : UInt8),
                              (122 : UInt8)].getD
                          (toI (c.getD (6 : Nat) (0 : GT.byte.T) % (13 : UInt8)).toNat).toNat (0 : UInt8)) ==
                      (83 : UInt8) then
                  (2 : Int)
                else toI (c.getD (8 : Nat) (0 : GT.byte.T) % (3 : UInt8)).toNat) ||
            decide ((240 : UInt8) < c.getD (8 : Nat) (0 : GT.byte.T)) then
        toI (UInt8.toNat (c.getD (18 : Nat) (0 : GT.byte.T)))
      else (0 : Int)),
    SV.s
      (bif
          (bif
                  (bif decide ((250 : UInt8) < c.getD (6 : Nat) (0 : GT.byte.T)) then (122 : UInt8)
                    else
                      [(48 : UInt8), (49 : UInt8), (50 : UInt8), (51 : UInt8), (52 : UInt8), (53 : UInt8), (54 : UInt8),
                            (55 : UInt8), (120 : UInt8), (103 : UInt8), (76 : UInt8), (75 : UInt8), (83 : UInt8),
                            (122 : UInt8)].getD
                        (toI (c.getD (6 : Nat) (0 : GT.byte.T) % (13 : UInt8)).toNat).toNat (0 : UInt8)) ==
                    (83 : UInt8) then
                (2 : Int)
              else toI (c.getD (8 : Nat) (0 : GT.byte.T) % (3 : UInt8)).toNat) ==
              (1 : Int) ||
            decide ((250 : UInt8) < c.getD (8 : Nat) (0 : GT.byte.T)) then
        name08 (c.getD (19 : Nat) (0 : GT.byte.T))
      else []),
    SV.sl false ((GT.int IntKind.i64).pair (GT.int IntKind.i64))
      (bif
          (bif decide ((250 : UInt8) < c.getD (6 : Nat) (0 : GT.byte.T)) then (122 : UInt8)
            else
              [(48 : UInt8), (49 : UInt8), (50 : UInt8), (51 : UInt8), (52 : UInt8), (53 : UInt8), (54 : UInt8),
                    (55 : UInt8), (120 : UInt8), (103 : UInt8), (76 : UInt8), (75 : UInt8), (83 : UInt8),
                    (122 : UInt8)].getD
                (toI (c.getD (6 : Nat) (0 : GT.byte.T) % (13 : UInt8)).toNat).toNat (0 : UInt8)) ==
            (83 : UInt8) then
        partsV c (UInt8.toNat (c.getD (9 : Nat) (0 : GT.byte.T)) % (5 : Nat))
      else []),
    SV.b
      ((bif decide ((250 : UInt8) < c.getD (6 : Nat) (0 : GT.byte.T)) then (122 : UInt8)
          else
            [(48 : UInt8), (49 : UInt8), (50 : UInt8), (51 : UInt8), (52 : UInt8), (53 : UInt8), (54 : UInt8),
                  (55 : UInt8), (120 : UInt8), (103 : UInt8), (76 : UInt8), (75 : UInt8), (83 : UInt8),
                  (122 : UInt8)].getD
              (toI (c.getD (6 : Nat) (0 : GT.byte.T) % (13 : UInt8)).toNat).toNat (0 : UInt8)) ==
          (83 : UInt8) &&
        decide ((128 : UInt8) < c.getD (9 : Nat) (0 : GT.byte.T))),
    SV.i IntKind.i64
      (bif
          (bif decide ((250 : UInt8) < c.getD (6 : Nat) (0 : GT.byte.T)) then (122 : UInt8)
            else
              [(48 : UInt8), (49 : UInt8), (50 : UInt8), (51 : UInt8), (52 : UInt8), (53 : UInt8), (54 : UInt8),
                    (55 : UInt8), (120 : UInt8), (103 : UInt8), (76 : UInt8), (75 : UInt8), (83 : UInt8),
                    (122 : UInt8)].getD
                (toI (c.getD (6 : Nat) (0 : GT.byte.T) % (13 : UInt8)).toNat).toNat (0 : UInt8)) ==
            (83 : UInt8) then
        num08 (c.getD (14 : Nat) (0 : GT.byte.T))
      else (0 : Int))] := by kernel_rfl
theorem hdr_ok (c : List UInt8) (f : Cx) (S : AState) : ACalls Try.prog G0 17 (SV.avs f [.sl false .byte c]) S (retIs ((SV.agg (hdCells c)).av f) S) :=
  contract (rvs := [.agg (hdCells c)]) Try.follows T08_ok (lps_ag _ fun p hp s => by simp only [List.mem_singleton] at hp; subst hp; exact kl_ag _ _ _ _ _ s) Try.func17 (show _ = some hdrC by kernel_rfl) (by rfl) (by decide) (blk1 (show findAll 0 hdrC = [.loop hdrL0] by kernel_rfl) hdrL0_ok) (by rw [hd_cells]; rfl) (by
    rw [hdr_rt, hd_cells]
    have h13 : (c.getD 6 0 % 13).toNat = (c.getD 6 0).toNat % 13 := by rw [UInt8.toNat_mod]; rfl
    have h14 : (c.getD 6 0).toNat % 13 < 13 := Nat.mod_lt _ (by omega)
    simp only [h13, go_sem, Bool.and_eq_true, Bool.or_eq_true, Bool.and_eq_false_iff, Bool.or_eq_false_iff, decide_eq_true_eq, decide_eq_false_iff_not, beq_iff_eq, beq_eq_false_iff_ne, Bool.not_eq_true', Bool.not_eq_false', true_and, and_true, reduceCtorEq, Nat.reduceLT, Nat.reduceLeDiff, List.length_cons, List.length_nil, Nat.zero_add, Nat.reduceAdd]
    omega) f (fun g => rfl) S
def svI : Option SV → Int | some (.i _ n) => n | _ => 0
def svS : Option SV → List UInt8 | some (.s n) => n | _ => []
def svY : Option SV → UInt8 | some (.y n) => n | _ => 0
def svB : Option SV → Bool | some (.b n) => n | _ => false
def svP : Option SV → List (Int × Int)
  | some (.sl _ g l) => match GT.same g GPart with
    | some ⟨h⟩ => GT.cast h l
    | none => []
  | _ => []
noncomputable def hdI (c : List UInt8) (j : Nat) : Int := svI (hdCells c)[j]?
noncomputable def hdS (c : List UInt8) (j : Nat) : List UInt8 := svS (hdCells c)[j]?
noncomputable def hdY (c : List UInt8) (j : Nat) : UInt8 := svY (hdCells c)[j]?
noncomputable def hdB (c : List UInt8) (j : Nat) : Bool := svB (hdCells c)[j]?
noncomputable def hdP (c : List UInt8) (j : Nat) : List (Int × Int) := svP (hdCells c)[j]?
/-- The header's cells, named. -/
noncomputable def hdC (c : List UInt8) : List SV := [.s (hdS c 0), .i .i64 (hdI c 1), .i .i64 (hdI c 2), .i .i64 (hdI c 3), .i .i64 (hdI c 4), .i .i64 (hdI c 5), .y (hdY c 6), .s (hdS c 7), .i .i64 (hdI c 8), .s (hdS c 9), .s (hdS c 10), .i .i64 (hdI c 11), .i .i64 (hdI c 12), .s (hdS c 13), .sl false GPart (hdP c 14), .b (hdB c 15), .i .i64 (hdI c 16)]
theorem hdCells_eq (c : List UInt8) : hdCells c = hdC c := by
  unfold hdC hdI hdS hdY hdB hdP
  generalize e : hdCells c = l
  rw [hd_cells] at e
  subst e
  rfl
theorem hdS_0 (c : List UInt8) : (hdS c 0).length ≤ 40 := by
  unfold hdS
  rw [hd_cells]
  exact name08_le _
end Go.Proofs.Ytoofpdmdgofdcaa.L

namespace Go.Proofs.Ytoofpdmdgofdcaa.L
open Go Go.RowKit Go.Proofs.Ytoofpdmdgofdcaa.E Go.Proofs.Ytoofpdmdgofdcaa.X
set_option linter.unusedVariables false
set_option linter.unusedSimpArgs false
set_option maxRecDepth 100000
set_option maxHeartbeats 1000000
abbrev GHdr : GT := .pair .str (.pair (.int .i64) (.pair (.int .i64) (.pair (.int .i64) (.pair (.int .i64) (.pair (.int .i64) (.pair .byte (.pair .str (.pair (.int .i64) (.pair .str (.pair .str (.pair (.int .i64) (.pair (.int .i64) (.pair .str (.pair (.list GPart) (.pair .bool (.int .i64))))))))))))))))
theorem gt_hdr : gtOf Try.prog 20 40 = some GHdr := by kernel_rfl
theorem gt_rec : gtOf Try.prog 20 37 = some (.list GRec) := by kernel_rfl

def agT (args : List SV) : VR :=
  match args with
  | [.agg cs, x] => match (cs[0]? : Option SV), (cs[7]? : Option SV), (cs[13]? : Option SV), asL GRec x, cs.all SV.one with
    | some (SV.s n), some (SV.s k), some (SV.s p), some l, true => .req (decide (l.length ≤ 274877906944)) (.b (agreesP l n k p))
    | _, _, _, _, _ => .no
  | _ => .no
theorem asL_pl (f : Cx) {x : SV} {l : List (List UInt8 × List UInt8)} (h : asL GRec x = some l) : (x.av f).pl = .sl .no l.length (encRs l) := by
  cases x with
  | nils => cases h; rfl
  | sl0 => cases h; rfl
  | sl o g l' =>
    simp only [asL] at h
    split at h
    · rename_i hg _
      subst hg
      cases h
      rfl
    · cases h
  | _ => cases h
theorem avs_get1 (f : Cx) {cs : List SV} {j : Nat} {c : SV} (h : cs[j]? = some c) : (SV.avs f cs)[j]? = some (c.av f) := by
  rw [avs_get, h]; rfl
theorem agT_use {n : FuncId} (hag : ∀ (hc : List AV) (l : List PRec) (name link pre : List UInt8) (hh : HdrOK hc name link pre) (hl : l.length ≤ 274877906944) (σ : AState), ACalls Try.prog G0 n [.agg hc, .sl .no l.length (encRs l)] σ (retIs (.b (agreesP l name link pre)) σ))
    (args : List SV) (f : Cx) (S : AState) (v : SV) (h : agT args = .val v ∨ agT args = .req true v) : ACalls Try.prog G0 n (SV.avs f args) S (retIs (v.av f) S) := by
  unfold agT at h
  split at h
  · rename_i cs x
    split at h
    · rename_i nm lk pr l h0 h7 h13 hx hall
      rcases h with h | h
      · cases h
      · obtain ⟨h1, h2⟩ := VR.req.inj h
        subst h2
        simp only [decide_eq_true_eq] at h1
        refine ACalls.plArgs ?_
        have e : (SV.avs f [.agg cs, x]).map AV.pl = [.agg (SV.avs f cs), .sl .no l.length (encRs l)] := by
          show [AV.agg (SV.avs f cs), (x.av f).pl] = _
          rw [asL_pl f hx]
        rw [e]
        exact hag _ l nm lk pr ⟨by rw [avs_one]; exact hall, avs_get1 f h0, avs_get1 f h7, avs_get1 f h13⟩ h1 S
    · rcases h with h | h <;> cases h
  · rcases h with h | h <;> cases h

noncomputable def T16 : Tab := withT (withT (withT (withT (withT noT 15 fun args => match args with
    | [] => .val .tt
    | _ => .no) 16 agT) 19 agT) 17 fun args => match args with
    | [.sl false .byte c] => .val (.agg (hdC c))
    | _ => .no) 18 fun args => match args with
    | [.sl false .byte c, .i .i64 n] => .req (decide (0 ≤ n) && decide (n < 100000)) (.sl true GRec (recsV c (min (c.length / 2) n.toNat)))
    | _ => .no
theorem recs_ok (c : List UInt8) (n : Int) (h0 : 0 ≤ n) (h1 : n < 100000) (f : Cx) (S : AState) : ACalls Try.prog G0 18 (SV.avs f [.sl false .byte c, .i .i64 n]) S (retIs ((SV.sl true GRec (recsV c (min (c.length / 2) n.toNat))).av f) S) :=
  contract (rvs := [.sl true GRec (recsV c (min (c.length / 2) n.toNat))]) Try.follows noT_ok (lps_ag _ fun p hp s => by simp only [List.mem_singleton] at hp; subst hp; exact kl_ag _ _ _ _ _ s) Try.func18 (show _ = some recsC by kernel_rfl) (by rfl) (by decide) (blk1 (show findAll 0 recsC = [.loop recsL0] by kernel_rfl) recsL0_ok) rfl (by
    show denR (retT Try.prog Try.f18.results.toList (run Try.prog noT (lps [(0, recsK0)]) recsC ⟨[.sl false .byte c, .i .i64 n] ++ List.replicate (Try.f18.ntmps - 2) (.raw .u), [], [], []⟩)) _
    rw [recs_rt]
    simp only [go_sem, Bool.and_eq_true, Bool.or_eq_true, Bool.and_eq_false_iff, Bool.or_eq_false_iff, decide_eq_true_eq, decide_eq_false_iff_not, beq_iff_eq, beq_eq_false_iff_ne, Bool.not_eq_true', Bool.not_eq_false', true_and, and_true, reduceCtorEq, Nat.reduceLT, Nat.reduceLeDiff, List.length_cons, List.length_nil, Nat.zero_add, Nat.reduceAdd]
    exact ⟨h0, h1⟩) f (fun g => rfl) S
theorem T16_ok : TabOK Try.prog T16 := by
  refine withT_ok (withT_ok (withT_ok (withT_ok (withT_ok noT_ok ?_) ?_) ?_) ?_) ?_
  · intro args f S v h
    split at h
    · rcases h with h | h
      · cases h
        exact known16 S
      · cases h
    · rcases h with h | h <;> cases h
  · exact agT_use fun hc l a b c hh hl σ => agrees hc l a b c hh hl σ
  · exact agT_use fun hc l a b c hh hl σ => refAgrees hc l a b c hh hl σ
  · intro args f S v h
    split at h
    · rcases h with h | h
      · cases h
        rw [← hdCells_eq]
        exact hdr_ok _ f S
      · cases h
    · rcases h with h | h <;> cases h
  · intro args f S v h
    split at h
    · rcases h with h | h
      · cases h
      · obtain ⟨h1, h2⟩ := VR.req.inj h
        subst h2
        simp only [Bool.and_eq_true, decide_eq_true_eq] at h1
        exact recs_ok _ _ h1.1 h1.2 f S
    · rcases h with h | h <;> cases h

noncomputable def tagC : Code := Try.f7.body.getD .skip
theorem tag_rt (h : GHdr.T) (l : List (List UInt8 × List UInt8)) (c d : List UInt8) (k : UInt8) : retT Try.prog Try.f7.results.toList (run Try.prog T16 noL tagC ⟨[.agg (GHdr.sv h), .sl false GRec l, .sl false .byte c, .sl false .byte d, .y k] ++ List.replicate (Try.f7.ntmps - List.length [SV.agg (GHdr.sv h), .sl false GRec l, .sl false .byte c, .sl false .byte d, .y k]) (.raw .u), [], [], []⟩) =
  RT.ite (decide ((30 : Int) < toI l.length) || decide ((500 : Int) < toI (List.length h.fst))) (RT.val [SV.tt])
    (RT.req true
      (RT.req true
        (RT.req
          (decide ((0 : Int) ≤ toI (k / (2 : UInt8) % (2 : UInt8)).toNat) &&
                decide (toI (k / (2 : UInt8) % (2 : UInt8)).toNat ≤ (1 : Int)) &&
              (decide
                  ((hdS c (0 : Nat)).length +
                      (List.drop (0 : Nat)
                          (List.take (toI (k / (2 : UInt8) % (2 : UInt8)).toNat).toNat [(120 : UInt8)])).length ≤
                    (1152921504606846976 : Nat)) &&
                (decide
                    ((2 : Nat) *
                          ((recsV d (min (d.length / (2 : Nat)) (4 : Nat))).length +
                            [([(112 : UInt8), (97 : UInt8), (116 : UInt8), (104 : UInt8)],
                                  hdS c (0 : Nat) ++
                                    List.drop (0 : Nat)
                                      (List.take (toI (k / (2 : UInt8) % (2 : UInt8)).toNat).toNat [(120 : UInt8)])),
                                ([(108 : UInt8), (105 : UInt8), (110 : UInt8), (107 : UInt8), (112 : UInt8), (97 : UInt8),
                                    (116 : UInt8), (104 : UInt8)],
                                  hdS c (7 : Nat))].length) *
                        (32 : Nat) ≤
                      (281474976710656 : Nat)) &&
                  decide
                    ((recsV d (min (d.length / (2 : Nat)) (4 : Nat))).length +
                        [([(112 : UInt8), (97 : UInt8), (116 : UInt8), (104 : UInt8)],
                              hdS c (0 : Nat) ++
                                List.drop (0 : Nat)
                                  (List.take (toI (k / (2 : UInt8) % (2 : UInt8)).toNat).toNat [(120 : UInt8)])),
                            ([(108 : UInt8), (105 : UInt8), (110 : UInt8), (107 : UInt8), (112 : UInt8), (97 : UInt8),
                                (116 : UInt8), (104 : UInt8)],
                              hdS c (7 : Nat))].length ≤
                      (281474976710656 : Nat)))) ||
            !k % (2 : UInt8) == (0 : UInt8))
          (RT.req (decide (l.length ≤ (274877906944 : Nat)))
            (RT.req (decide (l.length ≤ (274877906944 : Nat)))
              (RT.req
                (decide
                      ((bif k % (2 : UInt8) == (0 : UInt8) then
                            recsV d (min (d.length / (2 : Nat)) (4 : Nat)) ++
                              [([(112 : UInt8), (97 : UInt8), (116 : UInt8), (104 : UInt8)],
                                  hdS c (0 : Nat) ++
                                    List.drop (0 : Nat)
                                      (List.take (toI (k / (2 : UInt8) % (2 : UInt8)).toNat).toNat [(120 : UInt8)])),
                                ([(108 : UInt8), (105 : UInt8), (110 : UInt8), (107 : UInt8), (112 : UInt8), (97 : UInt8),
                                    (116 : UInt8), (104 : UInt8)],
                                  hdS c (7 : Nat))]
                          else recsV d (min (d.length / (2 : Nat)) (4 : Nat))).length ≤
                        (274877906944 : Nat)) &&
                    decide
                      ((bif k % (2 : UInt8) == (0 : UInt8) then
                            recsV d (min (d.length / (2 : Nat)) (4 : Nat)) ++
                              [([(112 : UInt8), (97 : UInt8), (116 : UInt8), (104 : UInt8)],
                                  hdS c (0 : Nat) ++
                                    List.drop (0 : Nat)
                                      (List.take (toI (k / (2 : UInt8) % (2 : UInt8)).toNat).toNat [(120 : UInt8)])),
                                ([(108 : UInt8), (105 : UInt8), (110 : UInt8), (107 : UInt8), (112 : UInt8), (97 : UInt8),
                                    (116 : UInt8), (104 : UInt8)],
                                  hdS c (7 : Nat))]
                          else recsV d (min (d.length / (2 : Nat)) (4 : Nat))).length ≤
                        (274877906944 : Nat)) ||
                  !agreesP l h.fst h.snd.snd.snd.snd.snd.snd.snd.fst
                        h.snd.snd.snd.snd.snd.snd.snd.snd.snd.snd.snd.snd.snd.fst ==
                      agreesP l h.fst h.snd.snd.snd.snd.snd.snd.snd.fst
                        h.snd.snd.snd.snd.snd.snd.snd.snd.snd.snd.snd.snd.snd.fst)
                (RT.val
                  [SV.b
                      (agreesP l h.fst h.snd.snd.snd.snd.snd.snd.snd.fst
                            h.snd.snd.snd.snd.snd.snd.snd.snd.snd.snd.snd.snd.snd.fst ==
                          agreesP l h.fst h.snd.snd.snd.snd.snd.snd.snd.fst
                            h.snd.snd.snd.snd.snd.snd.snd.snd.snd.snd.snd.snd.snd.fst &&
                        agreesP
                            (bif k % (2 : UInt8) == (0 : UInt8) then
                              recsV d (min (d.length / (2 : Nat)) (4 : Nat)) ++
                                [([(112 : UInt8), (97 : UInt8), (116 : UInt8), (104 : UInt8)],
                                    hdS c (0 : Nat) ++
                                      List.drop (0 : Nat)
                                        (List.take (toI (k / (2 : UInt8) % (2 : UInt8)).toNat).toNat [(120 : UInt8)])),
                                  ([(108 : UInt8), (105 : UInt8), (110 : UInt8), (107 : UInt8), (112 : UInt8),
                                      (97 : UInt8), (116 : UInt8), (104 : UInt8)],
                                    hdS c (7 : Nat))]
                            else recsV d (min (d.length / (2 : Nat)) (4 : Nat)))
                            (hdS c (0 : Nat)) (hdS c (7 : Nat)) (hdS c (13 : Nat)) ==
                          agreesP
                            (bif k % (2 : UInt8) == (0 : UInt8) then
                              recsV d (min (d.length / (2 : Nat)) (4 : Nat)) ++
                                [([(112 : UInt8), (97 : UInt8), (116 : UInt8), (104 : UInt8)],
                                    hdS c (0 : Nat) ++
                                      List.drop (0 : Nat)
                                        (List.take (toI (k / (2 : UInt8) % (2 : UInt8)).toNat).toNat [(120 : UInt8)])),
                                  ([(108 : UInt8), (105 : UInt8), (110 : UInt8), (107 : UInt8), (112 : UInt8),
                                      (97 : UInt8), (116 : UInt8), (104 : UInt8)],
                                    hdS c (7 : Nat))]
                            else recsV d (min (d.length / (2 : Nat)) (4 : Nat)))
                            (hdS c (0 : Nat)) (hdS c (7 : Nat)) (hdS c (13 : Nat)))]))))))) := by kernel_rfl
theorem tieAgrees (h : GHdr.T) (l : List (List UInt8 × List UInt8)) (c d : List UInt8) (k : UInt8) (f : Cx) (S : AState) : ACalls Try.prog G0 7 (SV.avs f [.agg (GHdr.sv h), .sl false GRec l, .sl false .byte c, .sl false .byte d, .y k]) S (retIs (.b true) S) :=
  contract (rvs := [.b true]) Try.follows T16_ok noL_ag Try.func7 (show _ = some tagC by kernel_rfl) (by rfl) (by decide) (blk_none _) rfl (by
    rw [tag_rt]
    have hn := hdS_0 c
    have hl : (recsV d (min (d.length / 2) 4)).length ≤ 4 := by simp only [recsV, List.length_map, List.length_range]; omega
    have hk : (k / 2 % 2).toNat ≤ 1 := by
      rw [UInt8.toNat_mod, show (2 : UInt8).toNat = 2 from rfl]
      omega
    have h1 : (List.drop 0 (List.take (k / 2 % 2).toNat [(120 : UInt8)])).length ≤ 1 := by
      simp only [List.drop_zero, List.length_take, List.length_cons, List.length_nil]
      omega
    simp only [go_sem, Bool.and_eq_true, Bool.or_eq_true, Bool.and_eq_false_iff, Bool.or_eq_false_iff, decide_eq_true_eq, decide_eq_false_iff_not, beq_iff_eq, beq_eq_false_iff_ne, Bool.not_eq_true', Bool.not_eq_false', true_and, and_true, reduceCtorEq, Nat.reduceLT, Nat.reduceLeDiff, List.length_cons, List.length_nil, Nat.zero_add, Nat.reduceAdd]
    refine ⟨fun _ => trivial, fun hg => ⟨.inl ⟨⟨by omega, by omega⟩, by omega, by omega, by omega⟩, by omega, by omega, ?_⟩⟩
    cases (k % 2 == 0)
    · simp only [cond_false]; omega
    · simp only [cond_true, List.length_append, List.length_cons, List.length_nil]; omega) f (fun g => rfl) S
end Go.Proofs.Ytoofpdmdgofdcaa.L

namespace Go.Proofs.Ytoofpdmdgofdcaa
open Go Go.RowKit Go.ChangeShapes Go.WideShapes Go.Proofs.Ytoofpdmdgofdcaa.E Go.Proofs.Ytoofpdmdgofdcaa.L Go.Proofs.Ytoofpdmdgofdcaa.X
set_option linter.unusedVariables false
set_option linter.unusedSimpArgs false
set_option maxRecDepth 100000 in
theorem encB_fl : ∀ c : List UInt8, List.flatMap (GT.av .byte) c = encB c
  | [] => rfl
  | a :: c => by
    show GT.av .byte a ++ List.flatMap (GT.av .byte) c = encB (a :: c)
    rw [encB_fl c]
    rfl
theorem tagArgs (h : GHdr.T) (l : List (List UInt8 × List UInt8)) (c d : List UInt8) (k : UInt8) (f : Cx) : SV.avs f [.agg (GHdr.sv h), .sl false GRec l, .sl false .byte c, .sl false .byte d, .y k] = [.agg (GHdr.av h), .sl .no l.length (l.flatMap GRec.av), .sl .no c.length (encB c), .sl .no d.length (encB d), .i .u8 (k.toNat : Int)] := by
  rw [← GT.sv_av f GHdr h, ← encB_fl c, ← encB_fl d]
  rfl
set_option maxRecDepth 100000 in
theorem tieAgrees_lifted (os : Os) (started : os.Started) (H : Type) (enc : TypeId × Value → H) :
    ReturnsInHanded {} Try.checked os 7 .any (Rows.tieAgreesSpec.pre6 enc Try.prog Try.f7 Rows.tieAgreesRow.domain false) (Rows.tieAgreesSpec.post enc Try.prog Try.f7 false true false false) := by
  refine returnsInHanded_of_change_sized (C := Try.checked) (by kernel_rfl) started (by kernel_rfl) Try.func7
    (ChangeSpec.witness6 (enc := enc) (C := Try.checked) false ⟨#[], #[(.agg #[.string (ByteArray.mk #[]), .int .i64 0, .int .i64 0, .int .i64 0, .int .i64 0, .int .i64 0, .int .u8 0, .string (ByteArray.mk #[]), .int .i64 0, .string (ByteArray.mk #[]), .string (ByteArray.mk #[]), .int .i64 0, .int .i64 0, .string (ByteArray.mk #[]), .slice none 0 0, .bool false, .int .i64 0]), .slice none 0 0, .slice none 0 0, .slice none 0 0, .int .u8 0], []⟩ 8 (by kernel_rfl) (by kernel_rfl) (by kernel_rfl) (by kernel_rfl)) ?_
  intro W base args ds gs before hval hW _ hwt _
  have hW' := hW
  obtain ⟨p, q, hA0, hV, rfl, hfz, hnd⟩ := hW
  have hA : DataW.TrodAll enc Try.prog W 0 (fun _ => true) true Try.f7.params.toList args.toList ds p := hA0
  have hval : ∀ (j : Nat) t v, Try.f7.params[j]? = some t → args[j]? = some v → Value.okWide Try.prog W .any base t v := hval
  have hwt : (DataW.weightsEach Try.prog (Try.f7.params.toList ++ Rows.tieAgreesSpec.plain.varTypes Try.prog) (ds ++ gs)).all (· ≤ reachBytes) = true := hwt
  rw [Try.params7] at hA hval hwt
  obtain ⟨v0, vs0, d0, ds0, p0, q0, ha0, rfl, rfl, h0, r0⟩ := trodAll_cons hA
  obtain ⟨v1, vs1, d1, ds1, p1, q1, ha1, rfl, rfl, h1, r1⟩ := trodAll_cons r0
  obtain ⟨v2, vs2, d2, ds2, p2, q2, ha2, rfl, rfl, h2, r2⟩ := trodAll_cons r1
  obtain ⟨v3, vs3, d3, ds3, p3, q3, ha3, rfl, rfl, h3, r3⟩ := trodAll_cons r2
  obtain ⟨v4, vs4, d4, ds4, p4, q4, ha4, rfl, rfl, h4, r4⟩ := trodAll_cons r3
  obtain ⟨rfl, rfl, rfl⟩ := trodAll_nil r4
  subst ha4
  subst ha3
  subst ha2
  subst ha1
  obtain rfl : args = #[v0, v1, v2, v3, v4] := by cases args; simp_all
  obtain ⟨rfl, rfl⟩ := trodVars_none hV
  have hw : ∀ (j : Nat) t d, [40, 37, 23, 23, 5][j]? = some t → [d0, d1, d2, d3, d4][j]? = some d → ∀ n ∈ d.weights Try.prog t, n ≤ reachBytes := fun j t d h1 h2 n hn => by
    have := List.all_eq_true.1 hwt n (DataW.weights_mem_each (j := j) (by rw [List.getElem?_append_left (by have := (List.getElem?_eq_some_iff.1 h1).1; simpa using this)]; exact h1) (by simpa using h2) n hn)
    simpa using this
  obtain ⟨c0, R0, n0, s0⟩ := open_agg Try.underlying40 (hval 0 _ v0 rfl rfl) h0 (hw 0 _ _ rfl rfl)
  obtain ⟨h, rfl⟩ := sh_gt 20 gt_hdr (by kernel_rfl) (s0 20)
  have n0 : noOwn (.agg (GHdr.av h)) = true := rfl
  obtain ⟨c1, R1, n1, s1⟩ := open_sl Try.underlying37 (hval 1 _ v1 rfl rfl) h1 (hw 1 _ _ rfl rfl)
  obtain ⟨l, hl1⟩ := sh_gt 20 gt_rec (by kernel_rfl) (s1 20)
  obtain rfl : c1 = .sl .no l.length (l.flatMap GRec.av) := by simpa [GT.av] using hl1
  obtain ⟨c2, R2, n2, s2⟩ := open_sl Try.underlying23 (hval 2 _ v2 rfl rfl) h2 (hw 2 _ _ rfl rfl)
  obtain ⟨c, rfl, _⟩ := sh_bytes Try.underlying23 Try.underlying5 (by kernel_rfl) (of_decide_eq_true (by kernel_rfl)) (s2 2)
  obtain ⟨c3, R3, n3, s3⟩ := open_sl Try.underlying23 (hval 3 _ v3 rfl rfl) h3 (hw 3 _ _ rfl rfl)
  obtain ⟨d, rfl, _⟩ := sh_bytes Try.underlying23 Try.underlying5 (by kernel_rfl) (of_decide_eq_true (by kernel_rfl)) (s3 2)
  obtain ⟨m4, hin4, R4, n4⟩ := open_in Try.underlying5 (hval 4 _ v4 rfl rfl) h4
  obtain ⟨k, rfl⟩ := u8_of hin4
  have z := tieAgrees h l c d k ⟨fun j => j, none⟩ []
  rw [tagArgs] at z
  exact law_post (c := _) Try.func7 rfl (by rfl) (by kernel_rfl) (by kernel_rfl) (by kernel_rfl) Try.underlying4 hW' rfl rfl (cargs := [_, _, _, _, _]) rfl (fun j c v hc hv => by
    match j with
    | 0 => simp at hc hv; subst hc hv; exact ⟨R0, n0⟩
    | 1 => simp at hc hv; subst hc hv; exact ⟨R1, n1⟩
    | 2 => simp at hc hv; subst hc hv; exact ⟨R2, n2⟩
    | 3 => simp at hc hv; subst hc hv; exact ⟨R3, n3⟩
    | 4 => simp at hc hv; subst hc hv; exact ⟨R4, n4⟩
    | j + 5 => simp at hc) z

theorem tieAgrees_holds : Rows.TieAgreesSaid :=
  OpenClaim.holds_of_wide 7 Try.f7 rfl rfl rfl rfl rfl rfl rfl ⟨rfl, rfl, rfl, rfl, rfl⟩ rfl rfl rfl rfl rfl (by kernel_rfl) Try.func7 (by kernel_rfl)
    (of_decide_eq_true (by kernel_rfl)) (by unfold Func.isWrapper; first | (rw [if_pos (by decide +kernel)]; kernel_rfl) | (rw [if_neg (by decide +kernel)]; exact ⟨rfl, rfl⟩))
    (fun os started H enc _ => tieAgrees_lifted os started H enc)
end Go.Proofs.Ytoofpdmdgofdcaa
