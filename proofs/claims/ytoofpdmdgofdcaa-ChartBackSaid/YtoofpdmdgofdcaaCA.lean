/- Facts on types and constants of the program, as rules. No condition. -/
import Derived.Test.YtoofpdmdgofdcaaRows
import Derived.Test.YtoofpdmdgofdcaaEB
namespace Go.Proofs.Ytoofpdmdgofdcaa.L
open Go Go.RowKit Go.Proofs.Ytoofpdmdgofdcaa.E
theorem _root_.Go.Proofs.Try.follows : Try.prog.follows .mixedOrders = true := by kernel_rfl
theorem ts3 : tsize Try.prog 3 = some 1 := by kernel_rfl
theorem tb3 : tbytes Try.prog 3 = some 8 := by kernel_rfl
theorem tz3 : tzero Try.prog 3 = some [.i .i64 0] := by kernel_rfl
theorem tl3 : tzlen Try.prog 3 = some 1 := by kernel_rfl
theorem ts4 : tsize Try.prog 4 = some 1 := by kernel_rfl
theorem tb4 : tbytes Try.prog 4 = some 1 := by kernel_rfl
theorem tz4 : tzero Try.prog 4 = some [.b false] := by kernel_rfl
theorem tl4 : tzlen Try.prog 4 = some 1 := by kernel_rfl
theorem ts5 : tsize Try.prog 5 = some 1 := by kernel_rfl
theorem tb5 : tbytes Try.prog 5 = some 1 := by kernel_rfl
theorem tz5 : tzero Try.prog 5 = some [.i .u8 0] := by kernel_rfl
theorem tl5 : tzlen Try.prog 5 = some 1 := by kernel_rfl
theorem ts22 : tsize Try.prog 22 = some 1 := by kernel_rfl
theorem tb22 : tbytes Try.prog 22 = some 24 := by kernel_rfl
theorem tz22 : tzero Try.prog 22 = some [.sl .nil 0 []] := by kernel_rfl
theorem tl22 : tzlen Try.prog 22 = some 1 := by kernel_rfl
theorem ts23 : tsize Try.prog 23 = some 1 := by kernel_rfl
theorem tb23 : tbytes Try.prog 23 = some 24 := by kernel_rfl
theorem tz23 : tzero Try.prog 23 = some [.sl .nil 0 []] := by kernel_rfl
theorem tl23 : tzlen Try.prog 23 = some 1 := by kernel_rfl
theorem ts26 : tsize Try.prog 26 = some 1 := by kernel_rfl
theorem tb26 : tbytes Try.prog 26 = some 24 := by kernel_rfl
theorem tz26 : tzero Try.prog 26 = some [.sl .nil 0 []] := by kernel_rfl
theorem tl26 : tzlen Try.prog 26 = some 1 := by kernel_rfl
theorem ts31 : tsize Try.prog 31 = some 3 := by kernel_rfl
theorem tb31 : tbytes Try.prog 31 = some 24 := by kernel_rfl
theorem tz31 : tzero Try.prog 31 = some [.i .i64 0, .i .i64 0, .i .i64 0] := by kernel_rfl
theorem tl31 : tzlen Try.prog 31 = some 3 := by kernel_rfl
theorem ok31 : okT Try.prog 31 = true := by kernel_rfl
theorem fok31 : flatOK Try.prog 31 (match Try.prog.underlying 31 with | some (.struct fs) => fs | _ => #[]) = true := by kernel_rfl
theorem ts48 : tsize Try.prog 48 = some 1 := by kernel_rfl
theorem tb48 : tbytes Try.prog 48 = some 8 := by kernel_rfl
theorem tz48 : tzero Try.prog 48 = some [.nilfn] := by kernel_rfl
theorem tl48 : tzlen Try.prog 48 = some 1 := by kernel_rfl
theorem ts51 : tsize Try.prog 51 = some 1 := by kernel_rfl
theorem tb51 : tbytes Try.prog 51 = some 8 := by kernel_rfl
theorem tz51 : tzero Try.prog 51 = some [.nilfn] := by kernel_rfl
theorem tl51 : tzlen Try.prog 51 = some 1 := by kernel_rfl
attribute [go_sem] ts3 tb3 tz3 tl3 ts4 tb4 tz4 tl4 ts5 tb5 tz5 tl5 ts22 tb22 tz22 tl22 ts23 tb23 tz23 tl23 ts26 tb26 tz26 tl26 ts31 tb31 tz31 tl31 ok31 ts48 tb48 tz48 tl48 ts51 tb51 tz51 tl51 Try.underlying3 Try.underlying4 Try.underlying5 Try.underlying22 Try.underlying23 Try.underlying26 Try.underlying31 Try.underlying48 Try.underlying51 Try.results3 Try.ntmps3 Try.results4 Try.ntmps4 Try.results5 Try.ntmps5 Try.results8 Try.ntmps8 Try.results9 Try.ntmps9 Try.results10 Try.ntmps10 Try.results11 Try.ntmps11 Try.results12 Try.ntmps12 Try.results13 Try.ntmps13 Try.results14 Try.ntmps14 Try.results20 Try.ntmps20 Try.results21 Try.ntmps21 Try.results22 Try.ntmps22 Try.results23 Try.ntmps23 Try.results34 Try.ntmps34 Try.results35 Try.ntmps35

end Go.Proofs.Ytoofpdmdgofdcaa.L

namespace Go.Proofs.Ytoofpdmdgofdcaa.L
open Go Go.RowKit Go.Proofs.Ytoofpdmdgofdcaa.E
set_option linter.unusedVariables false
set_option linter.unusedSimpArgs false

abbrev Span := Int × Int × Int
def encSpan (s : Span) : List AV := [.i .i64 s.1, .i .i64 s.2.1, .i .i64 s.2.2]
def encInts (l : List Int) : List AV := l.map (.i .i64 ·)
def endOf (l : List Int) (c : Int) (t : Nat) : Nat := t + ((l.drop t).takeWhile (· == c)).length
theorem endOf_le (l : List Int) (c : Int) (t : Nat) : t ≤ endOf l c t := Nat.le_add_right _ _
def spansFrom (l : List Int) (k : Nat) : List Span :=
  if h : k < l.length then ((k : Int), ((endOf l l[k] (k + 1) : Nat) : Int), l[k]) :: spansFrom l (endOf l l[k] (k + 1)) else []
termination_by l.length - k
decreasing_by have := endOf_le l l[k] (k + 1); omega

theorem encInts_get (l : List Int) (k : Nat) (h : k < l.length) : (encInts l)[k]? = some (.i .i64 l[k]) := by simp [encInts, h]
theorem encInts_len (l : List Int) : (encInts l).length = l.length := by simp [encInts]
theorem encInts_app (l m : List Int) : encInts (l ++ m) = encInts l ++ encInts m := by simp [encInts]
theorem endOf_eq (l : List Int) (c : Int) (t : Nat) (h : t < l.length) (he : l[t] = c) : endOf l c t = endOf l c (t + 1) := by
  unfold endOf
  rw [List.drop_eq_getElem_cons h, List.takeWhile_cons]
  simp [he]
  omega
theorem endOf_ne (l : List Int) (c : Int) (t : Nat) (h : t < l.length) (he : l[t] ≠ c) : endOf l c t = t := by
  unfold endOf
  rw [List.drop_eq_getElem_cons h, List.takeWhile_cons]
  simp [he]
theorem endOf_end (l : List Int) (c : Int) (t : Nat) (h : l.length ≤ t) : endOf l c t = t := by
  unfold endOf
  rw [List.drop_eq_nil_of_le h]
  rfl
def encS (s : Span) : List AV := [.agg (encSpan s)]
def encSpans (l : List Span) : List AV := l.flatMap encSpan
def ownS (l : List Span) : AV := match l with | [] => .sl .nil 0 [] | s :: r => .sl (.yes 3) (s :: r).length (encSpans (s :: r))
theorem encSpans_len (l : List Span) : (encSpans l).length = 3 * l.length := by
  induction l with
  | nil => rfl
  | cons s l ih => simp [encSpans, encSpan] at *; omega
theorem encSpans_app (l m : List Span) : encSpans (l ++ m) = encSpans l ++ encSpans m := by simp [encSpans]
theorem cnil : cst (.slice none 0 0) = .sl .nil 0 [] := by kernel_rfl
theorem cleanS (n : Nat) (l : List Span) : cleanL n (encSpans l) = true := cleanL_of fun c hc => by
  simp only [encSpans, List.mem_flatMap] at hc
  obtain ⟨s, _, hc⟩ := hc
  simp [encSpan] at hc
  rcases hc with rfl | rfl | rfl <;> rfl
theorem cleanI (n : Nat) (l : List Int) : cleanL n (encInts l) = true := cleanL_of fun c hc => by
  simp only [encInts, List.mem_map] at hc
  obtain ⟨s, _, rfl⟩ := hc
  rfl
theorem encS_inj {s t : Span} (h : encS s = encS t) : s = t := by
  obtain ⟨a, b, c⟩ := s
  obtain ⟨a', b', c'⟩ := t
  simp [encS, encSpan] at h
  obtain ⟨h1, h2, h3⟩ := h
  rw [h1, h2, h3]
theorem encS_map_inj : ∀ {l m : List Span}, l.map encS = m.map encS → l = m
  | [], [], _ => rfl
  | [], _ :: _, h => by simp at h
  | _ :: _, [], h => by simp at h
  | a :: l, b :: m, h => by
    simp only [List.map_cons, List.cons.injEq] at h
    rw [encS_inj h.1, encS_map_inj h.2]
theorem ownS_app (l : List Span) (s : Span) : ownS (l ++ [s]) = .sl (.yes 3) (l.length + 1) (encSpans l ++ [.i .i64 s.1, .i .i64 s.2.1, .i .i64 s.2.2]) := by
  have h : ∀ m : List Span, m ≠ [] → ownS m = .sl (.yes 3) m.length (encSpans m) := fun m hm => by
    cases m with
    | nil => exact absurd rfl hm
    | cons a r => rfl
  rw [h _ (by simp), encSpans_app]
  simp [encSpans, encSpan]
theorem cleanO_own (n : Nat) (l : List Span) : cleanO n (.cells [ownS l]) = true := by
  cases l with
  | nil => rfl
  | cons a r => simp only [cleanO, cleanL, ownS, clean, cleanS, Bool.and_self]
theorem encSpans_get : ∀ (l : List Span) (k : Nat) (s : Span), l[k]? = some s → (encSpans l)[k * 3]? = some (.i .i64 s.1) ∧ (encSpans l)[k * 3 + 1]? = some (.i .i64 s.2.1) ∧ (encSpans l)[k * 3 + 2]? = some (.i .i64 s.2.2)
  | [], k, s, h => by simp at h
  | a :: l, 0, s, h => by simp at h; subst h; simp [encSpans, encSpan]
  | a :: l, k + 1, s, h => by
    have := encSpans_get l k s (by simpa using h)
    have e : encSpans (a :: l) = .i .i64 a.1 :: .i .i64 a.2.1 :: .i .i64 a.2.2 :: encSpans l := rfl
    rw [e, show (k + 1) * 3 = k * 3 + 1 + 1 + 1 by omega]
    simpa using this
theorem spansFrom_len (l : List Int) : ∀ (n k : Nat), l.length - k ≤ n → (spansFrom l k).length ≤ l.length - k
  | 0, k, h => by rw [spansFrom, dif_neg (by omega)]; simp
  | n + 1, k, h => by
    rw [spansFrom]
    by_cases hk : k < l.length
    · rw [dif_pos hk]
      have h1 := endOf_le l l[k] (k + 1)
      have := spansFrom_len l n (endOf l l[k] (k + 1)) (by omega)
      simp only [List.length_cons]
      omega
    · rw [dif_neg hk]; simp
attribute [go_sem] cnil cleanS cleanI
def refL (l : List Int) : Nat → List Span
  | 0 => []
  | k + 1 =>
    let L := if k = 0 ∨ l.getD k 0 ≠ l.getD (k - 1) 0 then refL l k ++ [((k : Int), 0, l.getD k 0)] else refL l k
    L.dropLast ++ (L.getLast?.map fun s => (s.1, ((k + 1 : Nat) : Int), s.2.2)).toList

theorem endOf_le_len (m : List Int) (c : Int) (t : Nat) (h : t ≤ m.length) : endOf m c t ≤ m.length := by
  unfold endOf
  have := (List.takeWhile_sublist (l := m.drop t) (· == c)).length_le
  rw [List.length_drop] at this
  omega

theorem endOf_snoc (m : List Int) (x c : Int) (t : Nat) (h : t ≤ m.length) : endOf (m ++ [x]) c t = if endOf m c t < m.length then endOf m c t else if x = c then m.length + 1 else m.length := by
  have h1 := (List.takeWhile_sublist (l := m.drop t) (· == c)).length_le
  rw [List.length_drop] at h1
  unfold endOf
  rw [List.drop_append_of_le_length h, List.takeWhile_append, List.length_drop]
  by_cases h2 : ((m.drop t).takeWhile (· == c)).length = m.length - t
  · rw [if_pos h2, if_neg (by omega), List.length_append, List.length_drop]
    by_cases hx : x = c
    · simp [hx]; omega
    · simp [hx]; omega
  · rw [if_neg h2, if_pos (by omega)]
def setTo (L : List Span) (n : Int) : List Span := L.dropLast ++ (L.getLast?.map fun s => (s.1, n, s.2.2)).toList

theorem setTo_cons (a : Span) (L : List Span) (n : Int) (h : L ≠ []) : setTo (a :: L) n = a :: setTo L n := by
  cases L with
  | nil => exact absurd rfl h
  | cons b r => simp [setTo]

theorem endOf_full (m : List Int) (c : Int) (t : Nat) (h : t ≤ m.length) (he : ¬ endOf m c t < m.length) : ∀ y ∈ m.drop t, y = c := by
  have hs := List.takeWhile_sublist (l := m.drop t) (· == c)
  have h1 := hs.length_le
  rw [List.length_drop] at h1
  unfold endOf at he
  have h2 := hs.eq_of_length (by rw [List.length_drop]; omega)
  have h3 := List.all_takeWhile (l := m.drop t) (p := (· == c))
  rw [h2, List.all_eq_true] at h3
  intro y hy
  simpa using h3 y hy

theorem spans_snoc (m : List Int) (x : Int) : ∀ (n j : Nat), m.length - j ≤ n → j < m.length → spansFrom (m ++ [x]) j = if m.getLast? = some x then setTo (spansFrom m j) ((m.length + 1 : Nat) : Int) else spansFrom m j ++ [((m.length : Int), ((m.length + 1 : Nat) : Int), x)]
  | 0, j, h, hj => by omega
  | n + 1, j, h, hj => by
    have hj2 : j < (m ++ [x]).length := by simp; omega
    have hg : (m ++ [x])[j] = m[j] := List.getElem_append_left hj
    rw [spansFrom, dif_pos hj2, hg, endOf_snoc m x _ _ (by omega)]
    rw [spansFrom.eq_1 m j, dif_pos hj]
    have hle := endOf_le m m[j] (j + 1)
    by_cases he : endOf m m[j] (j + 1) < m.length
    · rw [if_pos he, spans_snoc m x n (endOf m m[j] (j + 1)) (by omega) he]
      have hne : spansFrom m (endOf m m[j] (j + 1)) ≠ [] := by rw [spansFrom, dif_pos he]; simp
      split
      · rw [setTo_cons _ _ _ hne]
      · rfl
    · have hee : endOf m m[j] (j + 1) = m.length := Nat.le_antisymm (endOf_le_len m _ _ (by omega)) (by omega)
      have hall := endOf_full m m[j] (j + 1) (by omega) he
      have hlast : m.getLast? = some m[j] := by
        rw [List.getLast?_eq_getElem?]
        by_cases hl : m.length - 1 = j
        · rw [hl]; exact List.getElem?_eq_getElem hj
        · rw [List.getElem?_eq_getElem (by omega)]
          congr 1
          exact hall _ (List.mem_drop_iff_getElem.2 ⟨m.length - 1 - (j + 1), by omega, by congr 1; omega⟩)
      rw [if_neg he, hee, hlast]
      have hnil : spansFrom m m.length = [] := by rw [spansFrom, dif_neg (by omega)]
      have hnil2 : spansFrom (m ++ [x]) (m.length + 1) = [] := by rw [spansFrom, dif_neg (by simp)]
      by_cases hx : x = m[j]
      · rw [if_pos hx, hnil, hnil2, if_pos (by rw [hx])]
        simp [setTo]
      · rw [if_neg hx, hnil, if_neg (by intro e; exact hx (by simpa using e.symm))]
        rw [spansFrom, dif_pos (by simp)]
        have hg2 : (m ++ [x])[m.length]'(by simp) = x := by simp
        rw [hg2, endOf_end _ _ _ (by simp), hnil2]
        rfl
theorem refL_succ (l : List Int) (k : Nat) : refL l (k + 1) = setTo (if k = 0 ∨ l.getD k 0 ≠ l.getD (k - 1) 0 then refL l k ++ [((k : Int), 0, l.getD k 0)] else refL l k) ((k + 1 : Nat) : Int) := rfl

theorem setTo_snoc (L : List Span) (s : Span) (n : Int) : setTo (L ++ [s]) n = L ++ [(s.1, n, s.2.2)] := by simp [setTo]

/-- What the document's loop has behind k rounds. -/
theorem refL_eq (l : List Int) : ∀ k : Nat, k ≤ l.length → refL l k = spansFrom (l.take k) 0
  | 0, _ => by rw [spansFrom, dif_neg (by simp)]; rfl
  | k + 1, h => by
    have hk : k < l.length := by omega
    have ht : l.take (k + 1) = l.take k ++ [l[k]] := by rw [List.take_add_one, List.getElem?_eq_getElem hk]; rfl
    have hlen : (l.take k).length = k := by simp; omega
    have hgd : l.getD k 0 = l[k] := by simp [hk]
    rw [refL_succ, ht, hgd, refL_eq l k (by omega)]
    by_cases h0 : k = 0
    · subst h0
      have hx : spansFrom [] 0 = [] := by rw [spansFrom, dif_neg (by simp)]
      have hy : spansFrom [l[0]] 0 = [((0 : Int), (1 : Int), l[0])] := by
        have e1 : endOf [l[0]] l[0] 1 = 1 := by simp [endOf]
        have e2 : spansFrom [l[0]] 1 = [] := by rw [spansFrom, dif_neg (by simp)]
        rw [spansFrom, dif_pos (by simp)]
        simp only [List.getElem_cons_zero, Nat.zero_add, e1, e2]
        rfl
      simp only [true_or, if_true, List.take_zero, List.nil_append, hx, hy]
      rfl
    · have hp : l.getD (k - 1) 0 = l[k - 1]'(by omega) := by simp [show k - 1 < l.length by omega]
      have hlast : (l.take k).getLast? = some (l[k - 1]'(by omega)) := by
        rw [List.getLast?_eq_getElem?, hlen, List.getElem?_take_of_lt (by omega)]
        exact List.getElem?_eq_getElem (by omega)
      have hs := spans_snoc (l.take k) l[k] k 0 (by omega) (by omega)
      rw [hs, hlast, hp, hlen]
      by_cases he : l[k] = l[k - 1]'(by omega)
      · rw [if_neg (by simp [h0, he]), if_pos (by rw [he])]
      · rw [if_pos (.inr he), if_neg (by intro e; exact he (by simpa using e.symm)), setTo_snoc]

theorem refL_all (l : List Int) : refL l l.length = spansFrom l 0 := by rw [refL_eq l _ (Nat.le_refl _), List.take_length]
end Go.Proofs.Ytoofpdmdgofdcaa.L

namespace Go.Proofs.Ytoofpdmdgofdcaa.L
open Go Go.RowKit Go.Proofs.Ytoofpdmdgofdcaa.E
set_option linter.unusedVariables false
set_option linter.unusedSimpArgs false
set_option maxRecDepth 10000
set_option maxHeartbeats 1000000
theorem rows1 (l : List Int) (hl : l.length ≤ 281474976710656) : Iter Try.prog G0 35 [.pi [.sl .no l.length (encInts l)] 0] ((spansFrom l 0).map encS) := by
  intro id T F σ hT hF hy h0 ls
  refine ACalls.body G0_pl Try.func35 rfl (by rfl) (by decide) ?_; simp only [Try.ntmps35, List.replicate, go_sem, Nat.reduceAdd, Nat.reduceSub]
  repeat' (first
    | ((first | ((with_reducible refine awOps_move ?_ ?_); decide +kernel) | ((with_reducible refine awOps_load ?_ ?_); decide +kernel) | ((with_reducible refine awOps_one ?_ ?_); decide +kernel) | (with_reducible refine awOps_feed ?_) | ((with_reducible refine awOps_g ?_); refine awOps_guard rfl ?_) | ((with_reducible refine awT_one ?_ ?_); decide +kernel) | ((with_reducible refine awT_call ?_ ?_); decide +kernel) | ((with_reducible refine awT_g ?_); refine awT_guard rfl ?_) | ((with_reducible refine awU_one ?_ ?_); decide +kernel) | ((with_reducible refine awU_call ?_ ?_); decide +kernel) | ((with_reducible refine awU_g ?_); refine awU_guard rfl ?_) | (with_reducible refine AWp.condH ?_)); intro K Q' hK hQ; simp only [go_sem, Nat.reduceAdd, Nat.reduceSub, Nat.reduceMul, Nat.reduceDiv, Nat.reduceMod, Nat.reduceLT, Nat.reduceLeDiff, Nat.reduceEqDiff, Nat.reduceBEq, Nat.reduceBNe, reduceCtorEq, Int.reduceLE, Int.reduceLT, Int.reduceNeg, Int.reduceToNat, Int.reduceAdd, Int.reduceSub, Int.reduceMul, Int.reduceBEq, Int.reduceBNe, Int.reduceEq]; subst hK hQ)
    | ((with_reducible refine AWp.drawT Try.follows ?_ ?_); decide +kernel) | ((with_reducible refine AWp.drawU Try.follows ?_ ?_); decide +kernel)
    | with_reducible (first | refine awOps_end ?_ | refine awT_end ?_ | refine awU_end ?_ | refine nThen ?_ | refine putKn ?_ | refine nSuf ?_ | refine rThen ?_ | refine eThen ?_ | refine nBlock ?_ | refine eBlock ?_ | refine fBlock (by decide) ?_ | refine rBlock ?_ | refine nScope ?_ | refine eScope ?_ | refine rScope ?_ | refine AWp.seq ?_ | refine AWp.block ?_ | refine AWp.scope ?_ | refine AWp.text ?_ | refine AWp.skip ?_ | refine AWp.exit ?_ | refine AWp.ret ?_ | refine AWp.label ?_ | refine brK_T (by assumption) ?_ | refine brK_F (by assumption) ?_ | refine brK_mk (fun hb => ?_) (fun hb => ?_) | refine And.intro (by first | assumption | omega | simp only [go_sem, reduceCtorEq]) ?_)
    | ((with_reducible (first | refine rBodyZ ?_ | refine nBodyZ ?_ | refine rBodyQ ?_ | refine nBodyQ ?_)); simp only [go_sem, Nat.reduceAdd, Nat.reduceSub, Nat.reduceMul, Nat.reduceDiv, Nat.reduceMod, Nat.reduceLT, Nat.reduceLeDiff, Nat.reduceEqDiff, Nat.reduceBEq, Nat.reduceBNe, reduceCtorEq, Int.reduceLE, Int.reduceLT, Int.reduceNeg, Int.reduceToNat, Int.reduceAdd, Int.reduceSub, Int.reduceMul, Int.reduceBEq, Int.reduceBNe, Int.reduceEq]))
  refine AWp.loop (α := Nat × List (List AV) × AState) (fun x => x.1 ≤ l.length ∧ T x.2.1 x.2.2 ∧ (spansFrom l 0).map encS = x.2.1 ++ (spansFrom l x.1).map encS) (fun x => l.length - x.1) (fun x => mkE 37 [(0, .yl id), (1, .pi [.sl .no l.length (encInts l)] 0), (3, .i .i64 x.1)]) (fun x => x.2.2 ++ ls) (0, [], σ) ⟨Nat.zero_le _, h0, rfl⟩ ?_ ?_ ?_
  · simp only [Int.natCast_zero, go_sem, Nat.reduceAdd, Nat.reduceSub, Nat.reduceMul, Nat.reduceDiv, Nat.reduceMod, Nat.reduceLT, Nat.reduceLeDiff, Nat.reduceEqDiff, Nat.reduceBEq, Nat.reduceBNe, reduceCtorEq, Int.reduceLE, Int.reduceLT, Int.reduceNeg, Int.reduceToNat, Int.reduceAdd, Int.reduceSub, Int.reduceMul, Int.reduceBEq, Int.reduceBNe, Int.reduceEq]
  · exact WeakS.refl _
  rintro ⟨k, dn, s⟩ ⟨hk, hTs, hall⟩
  simp only at hk hTs hall
  simp only [go_sem, Nat.reduceAdd, Nat.reduceSub, Nat.reduceMul, Nat.reduceDiv, Nat.reduceMod, Nat.reduceLT, Nat.reduceLeDiff, Nat.reduceEqDiff, Nat.reduceBEq, Nat.reduceBNe, reduceCtorEq, Int.reduceLE, Int.reduceLT, Int.reduceNeg, Int.reduceToNat, Int.reduceAdd, Int.reduceSub, Int.reduceMul, Int.reduceBEq, Int.reduceBNe, Int.reduceEq]
  by_cases hlt : k < l.length
  · have hd : decide ((k : Int) < (l.length : Int)) = true := by simp; omega
    have hw := wrapS (k := k) (by omega)
    have hgk := encInts_get l k hlt
    have hrk : (0 : Int) ≤ (k : Int) ∧ (k : Int) < (l.length : Int) := by omega
    repeat' (first
    | ((first | ((with_reducible refine awOps_move ?_ ?_); decide +kernel) | ((with_reducible refine awOps_load ?_ ?_); decide +kernel) | ((with_reducible refine awOps_one ?_ ?_); decide +kernel) | (with_reducible refine awOps_feed ?_) | ((with_reducible refine awOps_g ?_); refine awOps_guard rfl ?_) | ((with_reducible refine awT_one ?_ ?_); decide +kernel) | ((with_reducible refine awT_call ?_ ?_); decide +kernel) | ((with_reducible refine awT_g ?_); refine awT_guard rfl ?_) | ((with_reducible refine awU_one ?_ ?_); decide +kernel) | ((with_reducible refine awU_call ?_ ?_); decide +kernel) | ((with_reducible refine awU_g ?_); refine awU_guard rfl ?_) | (with_reducible refine AWp.condH ?_)); intro K Q' hK hQ; simp only [hd, hw, go_sem, Nat.reduceAdd, Nat.reduceSub, Nat.reduceMul, Nat.reduceDiv, Nat.reduceMod, Nat.reduceLT, Nat.reduceLeDiff, Nat.reduceEqDiff, Nat.reduceBEq, Nat.reduceBNe, reduceCtorEq, Int.reduceLE, Int.reduceLT, Int.reduceNeg, Int.reduceToNat, Int.reduceAdd, Int.reduceSub, Int.reduceMul, Int.reduceBEq, Int.reduceBNe, Int.reduceEq]; subst hK hQ)
    | ((with_reducible refine AWp.drawT Try.follows ?_ ?_); decide +kernel) | ((with_reducible refine AWp.drawU Try.follows ?_ ?_); decide +kernel)
    | with_reducible (first | refine awOps_end ?_ | refine awT_end ?_ | refine awU_end ?_ | refine nThen ?_ | refine putKn ?_ | refine nSuf ?_ | refine rThen ?_ | refine eThen ?_ | refine nBlock ?_ | refine eBlock ?_ | refine fBlock (by decide) ?_ | refine rBlock ?_ | refine nScope ?_ | refine eScope ?_ | refine rScope ?_ | refine AWp.seq ?_ | refine AWp.block ?_ | refine AWp.scope ?_ | refine AWp.text ?_ | refine AWp.skip ?_ | refine AWp.exit ?_ | refine AWp.ret ?_ | refine AWp.label ?_ | refine brK_T (by assumption) ?_ | refine brK_F (by assumption) ?_ | refine brK_mk (fun hb => ?_) (fun hb => ?_) | refine And.intro (by first | assumption | omega | simp only [go_sem, reduceCtorEq]) ?_)
    | ((with_reducible (first | refine rBodyZ ?_ | refine nBodyZ ?_ | refine rBodyQ ?_ | refine nBodyQ ?_)); simp only [hd, hw, go_sem, Nat.reduceAdd, Nat.reduceSub, Nat.reduceMul, Nat.reduceDiv, Nat.reduceMod, Nat.reduceLT, Nat.reduceLeDiff, Nat.reduceEqDiff, Nat.reduceBEq, Nat.reduceBNe, reduceCtorEq, Int.reduceLE, Int.reduceLT, Int.reduceNeg, Int.reduceToNat, Int.reduceAdd, Int.reduceSub, Int.reduceMul, Int.reduceBEq, Int.reduceBNe, Int.reduceEq]))
    refine AWp.loop (α := Nat) (fun t => k + 1 ≤ t ∧ t ≤ l.length ∧ endOf l l[k] (k + 1) = endOf l l[k] t) (fun t => l.length - t) (fun t => mkE 37 [(0, .yl id), (1, .pi [.sl .no l.length (encInts l)] 0), (3, .i .i64 k), (4, .i .i64 t)]) (fun _ => s ++ ls) (k + 1) ⟨Nat.le_refl _, hlt, rfl⟩ ?_ ?_ ?_
    · simp only [go_sem, Nat.reduceAdd, Nat.reduceSub, Nat.reduceMul, Nat.reduceDiv, Nat.reduceMod, Nat.reduceLT, Nat.reduceLeDiff, Nat.reduceEqDiff, Nat.reduceBEq, Nat.reduceBNe, reduceCtorEq, Int.reduceLE, Int.reduceLT, Int.reduceNeg, Int.reduceToNat, Int.reduceAdd, Int.reduceSub, Int.reduceMul, Int.reduceBEq, Int.reduceBNe, Int.reduceEq]
    · exact WeakS.refl _
    rintro t ⟨ht1, ht2, ht3⟩
    have fin : endOf l l[k] t = t → (spansFrom l 0).map encS = dn ++ [.agg [.i .i64 k, .i .i64 t, .i .i64 l[k]]] :: (spansFrom l t).map encS := fun he => by
      have hspan : spansFrom l k = ((k : Int), ((t : Nat) : Int), l[k]) :: spansFrom l t := by
        rw [spansFrom]
        simp [hlt, ht3, he]
      rw [hall, hspan]
      rfl
    simp only [go_sem, Nat.reduceAdd, Nat.reduceSub, Nat.reduceMul, Nat.reduceDiv, Nat.reduceMod, Nat.reduceLT, Nat.reduceLeDiff, Nat.reduceEqDiff, Nat.reduceBEq, Nat.reduceBNe, reduceCtorEq, Int.reduceLE, Int.reduceLT, Int.reduceNeg, Int.reduceToNat, Int.reduceAdd, Int.reduceSub, Int.reduceMul, Int.reduceBEq, Int.reduceBNe, Int.reduceEq]
    by_cases htl : t < l.length
    · have hgt := encInts_get l t htl
      have hrt : (0 : Int) ≤ (t : Int) ∧ (t : Int) < (l.length : Int) := by omega
      have hdt : decide ((t : Int) < (l.length : Int)) = true := by simp; omega
      have hwt := wrapS (k := t) (by omega)
      repeat' (first
    | ((first | ((with_reducible refine awOps_move ?_ ?_); decide +kernel) | ((with_reducible refine awOps_load ?_ ?_); decide +kernel) | ((with_reducible refine awOps_one ?_ ?_); decide +kernel) | (with_reducible refine awOps_feed ?_) | ((with_reducible refine awOps_g ?_); refine awOps_guard rfl ?_) | ((with_reducible refine awT_one ?_ ?_); decide +kernel) | ((with_reducible refine awT_call ?_ ?_); decide +kernel) | ((with_reducible refine awT_g ?_); refine awT_guard rfl ?_) | ((with_reducible refine awU_one ?_ ?_); decide +kernel) | ((with_reducible refine awU_call ?_ ?_); decide +kernel) | ((with_reducible refine awU_g ?_); refine awU_guard rfl ?_) | (with_reducible refine AWp.condH ?_)); intro K Q' hK hQ; simp only [hdt, hgt, hgk, hrt, hrk, hwt, go_sem, Nat.reduceAdd, Nat.reduceSub, Nat.reduceMul, Nat.reduceDiv, Nat.reduceMod, Nat.reduceLT, Nat.reduceLeDiff, Nat.reduceEqDiff, Nat.reduceBEq, Nat.reduceBNe, reduceCtorEq, Int.reduceLE, Int.reduceLT, Int.reduceNeg, Int.reduceToNat, Int.reduceAdd, Int.reduceSub, Int.reduceMul, Int.reduceBEq, Int.reduceBNe, Int.reduceEq]; subst hK hQ)
    | ((with_reducible refine AWp.drawT Try.follows ?_ ?_); decide +kernel) | ((with_reducible refine AWp.drawU Try.follows ?_ ?_); decide +kernel)
    | with_reducible (first | refine awOps_end ?_ | refine awT_end ?_ | refine awU_end ?_ | refine nThen ?_ | refine putKn ?_ | refine nSuf ?_ | refine rThen ?_ | refine eThen ?_ | refine nBlock ?_ | refine eBlock ?_ | refine fBlock (by decide) ?_ | refine rBlock ?_ | refine nScope ?_ | refine eScope ?_ | refine rScope ?_ | refine AWp.seq ?_ | refine AWp.block ?_ | refine AWp.scope ?_ | refine AWp.text ?_ | refine AWp.skip ?_ | refine AWp.exit ?_ | refine AWp.ret ?_ | refine AWp.label ?_ | refine brK_T (by assumption) ?_ | refine brK_F (by assumption) ?_ | refine brK_mk (fun hb => ?_) (fun hb => ?_) | refine And.intro (by first | assumption | omega | simp only [go_sem, reduceCtorEq]) ?_)
    | ((with_reducible (first | refine rBodyZ ?_ | refine nBodyZ ?_ | refine rBodyQ ?_ | refine nBodyQ ?_)); simp only [hdt, hgt, hgk, hrt, hrk, hwt, go_sem, Nat.reduceAdd, Nat.reduceSub, Nat.reduceMul, Nat.reduceDiv, Nat.reduceMod, Nat.reduceLT, Nat.reduceLeDiff, Nat.reduceEqDiff, Nat.reduceBEq, Nat.reduceBNe, reduceCtorEq, Int.reduceLE, Int.reduceLT, Int.reduceNeg, Int.reduceToNat, Int.reduceAdd, Int.reduceSub, Int.reduceMul, Int.reduceBEq, Int.reduceBNe, Int.reduceEq]))
      · have hx := fin (endOf_ne l _ t htl (by simpa using hb))
        refine (hy dn _ _ s ls hx hTs).mono ?_
        rintro y tt ⟨s', rfl, (⟨rfl, hT'⟩ | ⟨rfl, hF'⟩)⟩
        · simp only [callK, go_sem]
          repeat' (first
    | ((first | ((with_reducible refine awOps_move ?_ ?_); decide +kernel) | ((with_reducible refine awOps_load ?_ ?_); decide +kernel) | ((with_reducible refine awOps_one ?_ ?_); decide +kernel) | (with_reducible refine awOps_feed ?_) | ((with_reducible refine awOps_g ?_); refine awOps_guard rfl ?_) | ((with_reducible refine awT_one ?_ ?_); decide +kernel) | ((with_reducible refine awT_call ?_ ?_); decide +kernel) | ((with_reducible refine awT_g ?_); refine awT_guard rfl ?_) | ((with_reducible refine awU_one ?_ ?_); decide +kernel) | ((with_reducible refine awU_call ?_ ?_); decide +kernel) | ((with_reducible refine awU_g ?_); refine awU_guard rfl ?_) | (with_reducible refine AWp.condH ?_)); intro K Q' hK hQ; simp only [go_sem, Nat.reduceAdd, Nat.reduceSub, Nat.reduceMul, Nat.reduceDiv, Nat.reduceMod, Nat.reduceLT, Nat.reduceLeDiff, Nat.reduceEqDiff, Nat.reduceBEq, Nat.reduceBNe, reduceCtorEq, Int.reduceLE, Int.reduceLT, Int.reduceNeg, Int.reduceToNat, Int.reduceAdd, Int.reduceSub, Int.reduceMul, Int.reduceBEq, Int.reduceBNe, Int.reduceEq]; subst hK hQ)
    | ((with_reducible refine AWp.drawT Try.follows ?_ ?_); decide +kernel) | ((with_reducible refine AWp.drawU Try.follows ?_ ?_); decide +kernel)
    | with_reducible (first | refine awOps_end ?_ | refine awT_end ?_ | refine awU_end ?_ | refine nThen ?_ | refine putKn ?_ | refine nSuf ?_ | refine rThen ?_ | refine eThen ?_ | refine nBlock ?_ | refine eBlock ?_ | refine fBlock (by decide) ?_ | refine rBlock ?_ | refine nScope ?_ | refine eScope ?_ | refine rScope ?_ | refine AWp.seq ?_ | refine AWp.block ?_ | refine AWp.scope ?_ | refine AWp.text ?_ | refine AWp.skip ?_ | refine AWp.exit ?_ | refine AWp.ret ?_ | refine AWp.label ?_ | refine brK_T (by assumption) ?_ | refine brK_F (by assumption) ?_ | refine brK_mk (fun hb => ?_) (fun hb => ?_) | refine And.intro (by first | assumption | omega | simp only [go_sem, reduceCtorEq]) ?_)
    | ((with_reducible (first | refine rBodyZ ?_ | refine nBodyZ ?_ | refine rBodyQ ?_ | refine nBodyQ ?_)); simp only [go_sem, Nat.reduceAdd, Nat.reduceSub, Nat.reduceMul, Nat.reduceDiv, Nat.reduceMod, Nat.reduceLT, Nat.reduceLeDiff, Nat.reduceEqDiff, Nat.reduceBEq, Nat.reduceBNe, reduceCtorEq, Int.reduceLE, Int.reduceLT, Int.reduceNeg, Int.reduceToNat, Int.reduceAdd, Int.reduceSub, Int.reduceMul, Int.reduceBEq, Int.reduceBNe, Int.reduceEq]))
          refine ⟨(t, _, s'), ⟨ht2, hT', by rw [hx]; simp⟩, by simp only; omega, by simp only [go_sem, Nat.reduceAdd, Nat.reduceSub, Nat.reduceMul, Nat.reduceDiv, Nat.reduceMod, Nat.reduceLT, Nat.reduceLeDiff, Nat.reduceEqDiff, Nat.reduceBEq, Nat.reduceBNe, reduceCtorEq, Int.reduceLE, Int.reduceLT, Int.reduceNeg, Int.reduceToNat, Int.reduceAdd, Int.reduceSub, Int.reduceMul, Int.reduceBEq, Int.reduceBNe, Int.reduceEq], WeakS.refl _⟩
        · simp only [callK, go_sem]
          repeat' (first
    | ((first | ((with_reducible refine awOps_move ?_ ?_); decide +kernel) | ((with_reducible refine awOps_load ?_ ?_); decide +kernel) | ((with_reducible refine awOps_one ?_ ?_); decide +kernel) | (with_reducible refine awOps_feed ?_) | ((with_reducible refine awOps_g ?_); refine awOps_guard rfl ?_) | ((with_reducible refine awT_one ?_ ?_); decide +kernel) | ((with_reducible refine awT_call ?_ ?_); decide +kernel) | ((with_reducible refine awT_g ?_); refine awT_guard rfl ?_) | ((with_reducible refine awU_one ?_ ?_); decide +kernel) | ((with_reducible refine awU_call ?_ ?_); decide +kernel) | ((with_reducible refine awU_g ?_); refine awU_guard rfl ?_) | (with_reducible refine AWp.condH ?_)); intro K Q' hK hQ; simp only [go_sem, Nat.reduceAdd, Nat.reduceSub, Nat.reduceMul, Nat.reduceDiv, Nat.reduceMod, Nat.reduceLT, Nat.reduceLeDiff, Nat.reduceEqDiff, Nat.reduceBEq, Nat.reduceBNe, reduceCtorEq, Int.reduceLE, Int.reduceLT, Int.reduceNeg, Int.reduceToNat, Int.reduceAdd, Int.reduceSub, Int.reduceMul, Int.reduceBEq, Int.reduceBNe, Int.reduceEq]; subst hK hQ)
    | ((with_reducible refine AWp.drawT Try.follows ?_ ?_); decide +kernel) | ((with_reducible refine AWp.drawU Try.follows ?_ ?_); decide +kernel)
    | with_reducible (first | refine awOps_end ?_ | refine awT_end ?_ | refine awU_end ?_ | refine nThen ?_ | refine putKn ?_ | refine nSuf ?_ | refine rThen ?_ | refine eThen ?_ | refine nBlock ?_ | refine eBlock ?_ | refine fBlock (by decide) ?_ | refine rBlock ?_ | refine nScope ?_ | refine eScope ?_ | refine rScope ?_ | refine AWp.seq ?_ | refine AWp.block ?_ | refine AWp.scope ?_ | refine AWp.text ?_ | refine AWp.skip ?_ | refine AWp.exit ?_ | refine AWp.ret ?_ | refine AWp.label ?_ | refine brK_T (by assumption) ?_ | refine brK_F (by assumption) ?_ | refine brK_mk (fun hb => ?_) (fun hb => ?_) | refine And.intro (by first | assumption | omega | simp only [go_sem, reduceCtorEq]) ?_)
    | ((with_reducible (first | refine rBodyZ ?_ | refine nBodyZ ?_ | refine rBodyQ ?_ | refine nBodyQ ?_)); simp only [go_sem, Nat.reduceAdd, Nat.reduceSub, Nat.reduceMul, Nat.reduceDiv, Nat.reduceMod, Nat.reduceLT, Nat.reduceLeDiff, Nat.reduceEqDiff, Nat.reduceBEq, Nat.reduceBNe, reduceCtorEq, Int.reduceLE, Int.reduceLT, Int.reduceNeg, Int.reduceToNat, Int.reduceAdd, Int.reduceSub, Int.reduceMul, Int.reduceBEq, Int.reduceBNe, Int.reduceEq]))
          exact ⟨_, s', rfl, rfl, .inr ⟨_, hF'⟩⟩
      · exact ⟨t + 1, ⟨by omega, by omega, by rw [ht3]; exact endOf_eq l _ t htl (by simpa using hb)⟩, by simp only; omega, by simp only [hwt, go_sem, Nat.reduceAdd, Nat.reduceSub, Nat.reduceMul, Nat.reduceDiv, Nat.reduceMod, Nat.reduceLT, Nat.reduceLeDiff, Nat.reduceEqDiff, Nat.reduceBEq, Nat.reduceBNe, reduceCtorEq, Int.reduceLE, Int.reduceLT, Int.reduceNeg, Int.reduceToNat, Int.reduceAdd, Int.reduceSub, Int.reduceMul, Int.reduceBEq, Int.reduceBNe, Int.reduceEq], WeakS.refl _⟩
    · have hdt : decide ((t : Int) < (l.length : Int)) = false := by simp; omega
      repeat' (first
    | ((first | ((with_reducible refine awOps_move ?_ ?_); decide +kernel) | ((with_reducible refine awOps_load ?_ ?_); decide +kernel) | ((with_reducible refine awOps_one ?_ ?_); decide +kernel) | (with_reducible refine awOps_feed ?_) | ((with_reducible refine awOps_g ?_); refine awOps_guard rfl ?_) | ((with_reducible refine awT_one ?_ ?_); decide +kernel) | ((with_reducible refine awT_call ?_ ?_); decide +kernel) | ((with_reducible refine awT_g ?_); refine awT_guard rfl ?_) | ((with_reducible refine awU_one ?_ ?_); decide +kernel) | ((with_reducible refine awU_call ?_ ?_); decide +kernel) | ((with_reducible refine awU_g ?_); refine awU_guard rfl ?_) | (with_reducible refine AWp.condH ?_)); intro K Q' hK hQ; simp only [hdt, hgk, hrk, go_sem, Nat.reduceAdd, Nat.reduceSub, Nat.reduceMul, Nat.reduceDiv, Nat.reduceMod, Nat.reduceLT, Nat.reduceLeDiff, Nat.reduceEqDiff, Nat.reduceBEq, Nat.reduceBNe, reduceCtorEq, Int.reduceLE, Int.reduceLT, Int.reduceNeg, Int.reduceToNat, Int.reduceAdd, Int.reduceSub, Int.reduceMul, Int.reduceBEq, Int.reduceBNe, Int.reduceEq]; subst hK hQ)
    | ((with_reducible refine AWp.drawT Try.follows ?_ ?_); decide +kernel) | ((with_reducible refine AWp.drawU Try.follows ?_ ?_); decide +kernel)
    | with_reducible (first | refine awOps_end ?_ | refine awT_end ?_ | refine awU_end ?_ | refine nThen ?_ | refine putKn ?_ | refine nSuf ?_ | refine rThen ?_ | refine eThen ?_ | refine nBlock ?_ | refine eBlock ?_ | refine fBlock (by decide) ?_ | refine rBlock ?_ | refine nScope ?_ | refine eScope ?_ | refine rScope ?_ | refine AWp.seq ?_ | refine AWp.block ?_ | refine AWp.scope ?_ | refine AWp.text ?_ | refine AWp.skip ?_ | refine AWp.exit ?_ | refine AWp.ret ?_ | refine AWp.label ?_ | refine brK_T (by assumption) ?_ | refine brK_F (by assumption) ?_ | refine brK_mk (fun hb => ?_) (fun hb => ?_) | refine And.intro (by first | assumption | omega | simp only [go_sem, reduceCtorEq]) ?_)
    | ((with_reducible (first | refine rBodyZ ?_ | refine nBodyZ ?_ | refine rBodyQ ?_ | refine nBodyQ ?_)); simp only [hdt, hgk, hrk, go_sem, Nat.reduceAdd, Nat.reduceSub, Nat.reduceMul, Nat.reduceDiv, Nat.reduceMod, Nat.reduceLT, Nat.reduceLeDiff, Nat.reduceEqDiff, Nat.reduceBEq, Nat.reduceBNe, reduceCtorEq, Int.reduceLE, Int.reduceLT, Int.reduceNeg, Int.reduceToNat, Int.reduceAdd, Int.reduceSub, Int.reduceMul, Int.reduceBEq, Int.reduceBNe, Int.reduceEq]))
      have hx := fin (endOf_end l _ t (by omega))
      refine (hy dn _ _ s ls hx hTs).mono ?_
      rintro y tt ⟨s', rfl, (⟨rfl, hT'⟩ | ⟨rfl, hF'⟩)⟩
      · simp only [callK, go_sem]
        repeat' (first
    | ((first | ((with_reducible refine awOps_move ?_ ?_); decide +kernel) | ((with_reducible refine awOps_load ?_ ?_); decide +kernel) | ((with_reducible refine awOps_one ?_ ?_); decide +kernel) | (with_reducible refine awOps_feed ?_) | ((with_reducible refine awOps_g ?_); refine awOps_guard rfl ?_) | ((with_reducible refine awT_one ?_ ?_); decide +kernel) | ((with_reducible refine awT_call ?_ ?_); decide +kernel) | ((with_reducible refine awT_g ?_); refine awT_guard rfl ?_) | ((with_reducible refine awU_one ?_ ?_); decide +kernel) | ((with_reducible refine awU_call ?_ ?_); decide +kernel) | ((with_reducible refine awU_g ?_); refine awU_guard rfl ?_) | (with_reducible refine AWp.condH ?_)); intro K Q' hK hQ; simp only [go_sem, Nat.reduceAdd, Nat.reduceSub, Nat.reduceMul, Nat.reduceDiv, Nat.reduceMod, Nat.reduceLT, Nat.reduceLeDiff, Nat.reduceEqDiff, Nat.reduceBEq, Nat.reduceBNe, reduceCtorEq, Int.reduceLE, Int.reduceLT, Int.reduceNeg, Int.reduceToNat, Int.reduceAdd, Int.reduceSub, Int.reduceMul, Int.reduceBEq, Int.reduceBNe, Int.reduceEq]; subst hK hQ)
    | ((with_reducible refine AWp.drawT Try.follows ?_ ?_); decide +kernel) | ((with_reducible refine AWp.drawU Try.follows ?_ ?_); decide +kernel)
    | with_reducible (first | refine awOps_end ?_ | refine awT_end ?_ | refine awU_end ?_ | refine nThen ?_ | refine putKn ?_ | refine nSuf ?_ | refine rThen ?_ | refine eThen ?_ | refine nBlock ?_ | refine eBlock ?_ | refine fBlock (by decide) ?_ | refine rBlock ?_ | refine nScope ?_ | refine eScope ?_ | refine rScope ?_ | refine AWp.seq ?_ | refine AWp.block ?_ | refine AWp.scope ?_ | refine AWp.text ?_ | refine AWp.skip ?_ | refine AWp.exit ?_ | refine AWp.ret ?_ | refine AWp.label ?_ | refine brK_T (by assumption) ?_ | refine brK_F (by assumption) ?_ | refine brK_mk (fun hb => ?_) (fun hb => ?_) | refine And.intro (by first | assumption | omega | simp only [go_sem, reduceCtorEq]) ?_)
    | ((with_reducible (first | refine rBodyZ ?_ | refine nBodyZ ?_ | refine rBodyQ ?_ | refine nBodyQ ?_)); simp only [go_sem, Nat.reduceAdd, Nat.reduceSub, Nat.reduceMul, Nat.reduceDiv, Nat.reduceMod, Nat.reduceLT, Nat.reduceLeDiff, Nat.reduceEqDiff, Nat.reduceBEq, Nat.reduceBNe, reduceCtorEq, Int.reduceLE, Int.reduceLT, Int.reduceNeg, Int.reduceToNat, Int.reduceAdd, Int.reduceSub, Int.reduceMul, Int.reduceBEq, Int.reduceBNe, Int.reduceEq]))
        refine ⟨(t, _, s'), ⟨ht2, hT', by rw [hx]; simp⟩, by simp only; omega, by simp only [go_sem, Nat.reduceAdd, Nat.reduceSub, Nat.reduceMul, Nat.reduceDiv, Nat.reduceMod, Nat.reduceLT, Nat.reduceLeDiff, Nat.reduceEqDiff, Nat.reduceBEq, Nat.reduceBNe, reduceCtorEq, Int.reduceLE, Int.reduceLT, Int.reduceNeg, Int.reduceToNat, Int.reduceAdd, Int.reduceSub, Int.reduceMul, Int.reduceBEq, Int.reduceBNe, Int.reduceEq], WeakS.refl _⟩
      · simp only [callK, go_sem]
        repeat' (first
    | ((first | ((with_reducible refine awOps_move ?_ ?_); decide +kernel) | ((with_reducible refine awOps_load ?_ ?_); decide +kernel) | ((with_reducible refine awOps_one ?_ ?_); decide +kernel) | (with_reducible refine awOps_feed ?_) | ((with_reducible refine awOps_g ?_); refine awOps_guard rfl ?_) | ((with_reducible refine awT_one ?_ ?_); decide +kernel) | ((with_reducible refine awT_call ?_ ?_); decide +kernel) | ((with_reducible refine awT_g ?_); refine awT_guard rfl ?_) | ((with_reducible refine awU_one ?_ ?_); decide +kernel) | ((with_reducible refine awU_call ?_ ?_); decide +kernel) | ((with_reducible refine awU_g ?_); refine awU_guard rfl ?_) | (with_reducible refine AWp.condH ?_)); intro K Q' hK hQ; simp only [go_sem, Nat.reduceAdd, Nat.reduceSub, Nat.reduceMul, Nat.reduceDiv, Nat.reduceMod, Nat.reduceLT, Nat.reduceLeDiff, Nat.reduceEqDiff, Nat.reduceBEq, Nat.reduceBNe, reduceCtorEq, Int.reduceLE, Int.reduceLT, Int.reduceNeg, Int.reduceToNat, Int.reduceAdd, Int.reduceSub, Int.reduceMul, Int.reduceBEq, Int.reduceBNe, Int.reduceEq]; subst hK hQ)
    | ((with_reducible refine AWp.drawT Try.follows ?_ ?_); decide +kernel) | ((with_reducible refine AWp.drawU Try.follows ?_ ?_); decide +kernel)
    | with_reducible (first | refine awOps_end ?_ | refine awT_end ?_ | refine awU_end ?_ | refine nThen ?_ | refine putKn ?_ | refine nSuf ?_ | refine rThen ?_ | refine eThen ?_ | refine nBlock ?_ | refine eBlock ?_ | refine fBlock (by decide) ?_ | refine rBlock ?_ | refine nScope ?_ | refine eScope ?_ | refine rScope ?_ | refine AWp.seq ?_ | refine AWp.block ?_ | refine AWp.scope ?_ | refine AWp.text ?_ | refine AWp.skip ?_ | refine AWp.exit ?_ | refine AWp.ret ?_ | refine AWp.label ?_ | refine brK_T (by assumption) ?_ | refine brK_F (by assumption) ?_ | refine brK_mk (fun hb => ?_) (fun hb => ?_) | refine And.intro (by first | assumption | omega | simp only [go_sem, reduceCtorEq]) ?_)
    | ((with_reducible (first | refine rBodyZ ?_ | refine nBodyZ ?_ | refine rBodyQ ?_ | refine nBodyQ ?_)); simp only [go_sem, Nat.reduceAdd, Nat.reduceSub, Nat.reduceMul, Nat.reduceDiv, Nat.reduceMod, Nat.reduceLT, Nat.reduceLeDiff, Nat.reduceEqDiff, Nat.reduceBEq, Nat.reduceBNe, reduceCtorEq, Int.reduceLE, Int.reduceLT, Int.reduceNeg, Int.reduceToNat, Int.reduceAdd, Int.reduceSub, Int.reduceMul, Int.reduceBEq, Int.reduceBNe, Int.reduceEq]))
        exact ⟨_, s', rfl, rfl, .inr ⟨_, hF'⟩⟩
  · have hd : decide ((k : Int) < (l.length : Int)) = false := by simp; omega
    repeat' (first
    | ((first | ((with_reducible refine awOps_move ?_ ?_); decide +kernel) | ((with_reducible refine awOps_load ?_ ?_); decide +kernel) | ((with_reducible refine awOps_one ?_ ?_); decide +kernel) | (with_reducible refine awOps_feed ?_) | ((with_reducible refine awOps_g ?_); refine awOps_guard rfl ?_) | ((with_reducible refine awT_one ?_ ?_); decide +kernel) | ((with_reducible refine awT_call ?_ ?_); decide +kernel) | ((with_reducible refine awT_g ?_); refine awT_guard rfl ?_) | ((with_reducible refine awU_one ?_ ?_); decide +kernel) | ((with_reducible refine awU_call ?_ ?_); decide +kernel) | ((with_reducible refine awU_g ?_); refine awU_guard rfl ?_) | (with_reducible refine AWp.condH ?_)); intro K Q' hK hQ; simp only [hd, go_sem, Nat.reduceAdd, Nat.reduceSub, Nat.reduceMul, Nat.reduceDiv, Nat.reduceMod, Nat.reduceLT, Nat.reduceLeDiff, Nat.reduceEqDiff, Nat.reduceBEq, Nat.reduceBNe, reduceCtorEq, Int.reduceLE, Int.reduceLT, Int.reduceNeg, Int.reduceToNat, Int.reduceAdd, Int.reduceSub, Int.reduceMul, Int.reduceBEq, Int.reduceBNe, Int.reduceEq]; subst hK hQ)
    | ((with_reducible refine AWp.drawT Try.follows ?_ ?_); decide +kernel) | ((with_reducible refine AWp.drawU Try.follows ?_ ?_); decide +kernel)
    | with_reducible (first | refine awOps_end ?_ | refine awT_end ?_ | refine awU_end ?_ | refine nThen ?_ | refine putKn ?_ | refine nSuf ?_ | refine rThen ?_ | refine eThen ?_ | refine nBlock ?_ | refine eBlock ?_ | refine fBlock (by decide) ?_ | refine rBlock ?_ | refine nScope ?_ | refine eScope ?_ | refine rScope ?_ | refine AWp.seq ?_ | refine AWp.block ?_ | refine AWp.scope ?_ | refine AWp.text ?_ | refine AWp.skip ?_ | refine AWp.exit ?_ | refine AWp.ret ?_ | refine AWp.label ?_ | refine brK_T (by assumption) ?_ | refine brK_F (by assumption) ?_ | refine brK_mk (fun hb => ?_) (fun hb => ?_) | refine And.intro (by first | assumption | omega | simp only [go_sem, reduceCtorEq]) ?_)
    | ((with_reducible (first | refine rBodyZ ?_ | refine nBodyZ ?_ | refine rBodyQ ?_ | refine nBodyQ ?_)); simp only [hd, go_sem, Nat.reduceAdd, Nat.reduceSub, Nat.reduceMul, Nat.reduceDiv, Nat.reduceMod, Nat.reduceLT, Nat.reduceLeDiff, Nat.reduceEqDiff, Nat.reduceBEq, Nat.reduceBNe, reduceCtorEq, Int.reduceLE, Int.reduceLT, Int.reduceNeg, Int.reduceToNat, Int.reduceAdd, Int.reduceSub, Int.reduceMul, Int.reduceBEq, Int.reduceBNe, Int.reduceEq]))
    refine ⟨_, s, rfl, rfl, .inl ?_⟩
    rw [hall]
    unfold spansFrom
    rw [dif_neg hlt]
    simpa using hTs

theorem appendSeq {f : FuncId} {fn : Func} {c : Code} {cap : List AV} {L : List Span} (hf : Try.prog.funcs[f]? = some fn) (hb : fn.body = some c) (hng : (fn.name == "runtime.NumGoroutine") = false) (hit : Iter Try.prog G0 f (cap.map AV.pl) (L.map encS)) (hL : L.length ≤ 1099511627776) (σ : AState) :
    ACalls Try.prog G0 34 [.sl .nil 0 [], .fn f cap] σ (retIs (.sl .no L.length (encSpans L)) σ) := by
  refine ACalls.bodyZ G0_pl Try.func34 rfl (by rfl) (by decide) ?_; simp only [Try.ntmps34, List.replicate, go_sem, Nat.reduceAdd, Nat.reduceSub]
  repeat' (first
    | ((first | ((with_reducible refine awOps_move ?_ ?_); decide +kernel) | ((with_reducible refine awOps_load ?_ ?_); decide +kernel) | ((with_reducible refine awOps_one ?_ ?_); decide +kernel) | (with_reducible refine awOps_feed ?_) | ((with_reducible refine awOps_g ?_); refine awOps_guard rfl ?_) | ((with_reducible refine awT_one ?_ ?_); decide +kernel) | ((with_reducible refine awT_call ?_ ?_); decide +kernel) | ((with_reducible refine awT_g ?_); refine awT_guard rfl ?_) | ((with_reducible refine awU_one ?_ ?_); decide +kernel) | ((with_reducible refine awU_call ?_ ?_); decide +kernel) | ((with_reducible refine awU_g ?_); refine awU_guard rfl ?_) | (with_reducible refine AWp.condH ?_)); intro K Q' hK hQ; simp only [go_sem, Nat.reduceAdd, Nat.reduceSub, Nat.reduceMul, Nat.reduceDiv, Nat.reduceMod, Nat.reduceLT, Nat.reduceLeDiff, Nat.reduceEqDiff, Nat.reduceBEq, Nat.reduceBNe, reduceCtorEq, Int.reduceLE, Int.reduceLT, Int.reduceNeg, Int.reduceToNat, Int.reduceAdd, Int.reduceSub, Int.reduceMul, Int.reduceBEq, Int.reduceBNe, Int.reduceEq]; subst hK hQ)
    | ((with_reducible refine AWp.drawT Try.follows ?_ ?_); decide +kernel) | ((with_reducible refine AWp.drawU Try.follows ?_ ?_); decide +kernel)
    | with_reducible (first | refine awOps_end ?_ | refine awT_end ?_ | refine awU_end ?_ | refine nThen ?_ | refine putKn ?_ | refine nSuf ?_ | refine rThen ?_ | refine eThen ?_ | refine nBlock ?_ | refine eBlock ?_ | refine fBlock (by decide) ?_ | refine rBlock ?_ | refine nScope ?_ | refine eScope ?_ | refine rScope ?_ | refine AWp.seq ?_ | refine AWp.block ?_ | refine AWp.scope ?_ | refine AWp.text ?_ | refine AWp.skip ?_ | refine AWp.exit ?_ | refine AWp.ret ?_ | refine AWp.label ?_ | refine brK_T (by assumption) ?_ | refine brK_F (by assumption) ?_ | refine brK_mk (fun hb => ?_) (fun hb => ?_) | refine And.intro (by first | assumption | omega | simp only [go_sem, reduceCtorEq]) ?_)
    | ((with_reducible (first | refine rBodyZ ?_ | refine nBodyZ ?_ | refine rBodyQ ?_ | refine nBodyQ ?_)); simp only [go_sem, Nat.reduceAdd, Nat.reduceSub, Nat.reduceMul, Nat.reduceDiv, Nat.reduceMod, Nat.reduceLT, Nat.reduceLeDiff, Nat.reduceEqDiff, Nat.reduceBEq, Nat.reduceBNe, reduceCtorEq, Int.reduceLE, Int.reduceLT, Int.reduceNeg, Int.reduceToNat, Int.reduceAdd, Int.reduceSub, Int.reduceMul, Int.reduceBEq, Int.reduceBNe, Int.reduceEq]))
  refine AWp.rangeFunc (f := f) (cap := cap) (xs := L.map encS) (fun dn p => ∃ L1, dn = L1.map encS ∧ p = σ ++ [.cells [ownS L1]]) (fun _ _ => False) hf hb hng rfl hit ?_ ⟨[], rfl, rfl⟩ ?_ ?_ (fun _ _ _ h => h.elim)
  · intro x hx
    obtain ⟨s, _, rfl⟩ := List.mem_map.1 hx
    refine ⟨rfl, fun j c hj => ?_⟩
    cases j with
    | zero => simp [encS] at hj; subst hj; exact pl_mk (by simp) (by simp)
    | succ j => simp [encS] at hj
  · rintro dn x rest p ls r hx hp ⟨L1, rfl, rfl⟩
    have hmem : x ∈ L.map encS := by rw [hx]; simp
    obtain ⟨s, _, rfl⟩ := List.mem_map.1 hmem
    have hlen : L1.length + 1 ≤ L.length := by
      have := congrArg List.length hx
      simp at this
      omega
    have hown : ∃ o n cs, ownS L1 = .sl o n cs ∧ n = L1.length ∧ cs = encSpans L1 ∧ ((o = .nil ∧ n = 0 ∧ cs = []) ∨ o = .yes 3) := by
      cases L1 with
      | nil => exact ⟨_, _, _, rfl, rfl, rfl, .inl ⟨rfl, rfl, rfl⟩⟩
      | cons a r => exact ⟨_, _, _, rfl, rfl, rfl, .inr rfl⟩
    obtain ⟨o, n, cs, ho, hn, hcs, hoo⟩ := hown
    have hc3 : cs.length = n * 3 := by rw [hn, hcs, encSpans_len]; omega
    simp only [aputs, encS, encSpan, List.zip, List.zipWith, ho, go_sem, Nat.reduceAdd, Nat.reduceSub, Nat.reduceMul, Nat.reduceDiv, Nat.reduceMod, Nat.reduceLT, Nat.reduceLeDiff, Nat.reduceEqDiff, Nat.reduceBEq, Nat.reduceBNe, reduceCtorEq, Int.reduceLE, Int.reduceLT, Int.reduceNeg, Int.reduceToNat, Int.reduceAdd, Int.reduceSub, Int.reduceMul, Int.reduceBEq, Int.reduceBNe, Int.reduceEq]
    rcases hoo with ⟨rfl, rfl, rfl⟩ | rfl
    all_goals
      repeat' (first
    | ((first | ((with_reducible refine awOps_move ?_ ?_); decide +kernel) | ((with_reducible refine awOps_load ?_ ?_); decide +kernel) | ((with_reducible refine awOps_one ?_ ?_); decide +kernel) | (with_reducible refine awOps_feed ?_) | ((with_reducible refine awOps_g ?_); refine awOps_guard rfl ?_) | ((with_reducible refine awT_one ?_ ?_); decide +kernel) | ((with_reducible refine awT_call ?_ ?_); decide +kernel) | ((with_reducible refine awT_g ?_); refine awT_guard rfl ?_) | ((with_reducible refine awU_one ?_ ?_); decide +kernel) | ((with_reducible refine awU_call ?_ ?_); decide +kernel) | ((with_reducible refine awU_g ?_); refine awU_guard rfl ?_) | (with_reducible refine AWp.condH ?_)); intro K Q' hK hQ; simp only [go_sem, Nat.reduceAdd, Nat.reduceSub, Nat.reduceMul, Nat.reduceDiv, Nat.reduceMod, Nat.reduceLT, Nat.reduceLeDiff, Nat.reduceEqDiff, Nat.reduceBEq, Nat.reduceBNe, reduceCtorEq, Int.reduceLE, Int.reduceLT, Int.reduceNeg, Int.reduceToNat, Int.reduceAdd, Int.reduceSub, Int.reduceMul, Int.reduceBEq, Int.reduceBNe, Int.reduceEq]; subst hK hQ)
    | ((with_reducible refine AWp.drawT Try.follows ?_ ?_); decide +kernel) | ((with_reducible refine AWp.drawU Try.follows ?_ ?_); decide +kernel)
    | with_reducible (first | refine awOps_end ?_ | refine awT_end ?_ | refine awU_end ?_ | refine nThen ?_ | refine putKn ?_ | refine nSuf ?_ | refine rThen ?_ | refine eThen ?_ | refine nBlock ?_ | refine eBlock ?_ | refine fBlock (by decide) ?_ | refine rBlock ?_ | refine nScope ?_ | refine eScope ?_ | refine rScope ?_ | refine AWp.seq ?_ | refine AWp.block ?_ | refine AWp.scope ?_ | refine AWp.text ?_ | refine AWp.skip ?_ | refine AWp.exit ?_ | refine AWp.ret ?_ | refine AWp.label ?_ | refine brK_T (by assumption) ?_ | refine brK_F (by assumption) ?_ | refine brK_mk (fun hb => ?_) (fun hb => ?_) | refine And.intro (by first | assumption | omega | simp only [go_sem, reduceCtorEq]) ?_)
    | ((with_reducible (first | refine rBodyZ ?_ | refine nBodyZ ?_ | refine rBodyQ ?_ | refine nBodyQ ?_)); simp only [go_sem, Nat.reduceAdd, Nat.reduceSub, Nat.reduceMul, Nat.reduceDiv, Nat.reduceMod, Nat.reduceLT, Nat.reduceLeDiff, Nat.reduceEqDiff, Nat.reduceBEq, Nat.reduceBNe, reduceCtorEq, Int.reduceLE, Int.reduceLT, Int.reduceNeg, Int.reduceToNat, Int.reduceAdd, Int.reduceSub, Int.reduceMul, Int.reduceBEq, Int.reduceBNe, Int.reduceEq]))

      refine appC.l ?_
      simp only [aappend, asrc, appK, hc3, go_sem, Nat.reduceAdd, Nat.reduceSub, Nat.reduceMul, Nat.reduceDiv, Nat.reduceMod, Nat.reduceLT, Nat.reduceLeDiff, Nat.reduceEqDiff, Nat.reduceBEq, Nat.reduceBNe, reduceCtorEq, Int.reduceLE, Int.reduceLT, Int.reduceNeg, Int.reduceToNat, Int.reduceAdd, Int.reduceSub, Int.reduceMul, Int.reduceBEq, Int.reduceBNe, Int.reduceEq]

      repeat' (first
    | ((first | ((with_reducible refine awOps_move ?_ ?_); decide +kernel) | ((with_reducible refine awOps_load ?_ ?_); decide +kernel) | ((with_reducible refine awOps_one ?_ ?_); decide +kernel) | (with_reducible refine awOps_feed ?_) | ((with_reducible refine awOps_g ?_); refine awOps_guard rfl ?_) | ((with_reducible refine awT_one ?_ ?_); decide +kernel) | ((with_reducible refine awT_call ?_ ?_); decide +kernel) | ((with_reducible refine awT_g ?_); refine awT_guard rfl ?_) | ((with_reducible refine awU_one ?_ ?_); decide +kernel) | ((with_reducible refine awU_call ?_ ?_); decide +kernel) | ((with_reducible refine awU_g ?_); refine awU_guard rfl ?_) | (with_reducible refine AWp.condH ?_)); intro K Q' hK hQ; simp only [go_sem, Nat.reduceAdd, Nat.reduceSub, Nat.reduceMul, Nat.reduceDiv, Nat.reduceMod, Nat.reduceLT, Nat.reduceLeDiff, Nat.reduceEqDiff, Nat.reduceBEq, Nat.reduceBNe, reduceCtorEq, Int.reduceLE, Int.reduceLT, Int.reduceNeg, Int.reduceToNat, Int.reduceAdd, Int.reduceSub, Int.reduceMul, Int.reduceBEq, Int.reduceBNe, Int.reduceEq]; subst hK hQ)
    | ((with_reducible refine AWp.drawT Try.follows ?_ ?_); decide +kernel) | ((with_reducible refine AWp.drawU Try.follows ?_ ?_); decide +kernel)
    | with_reducible (first | refine awOps_end ?_ | refine awT_end ?_ | refine awU_end ?_ | refine nThen ?_ | refine putKn ?_ | refine nSuf ?_ | refine rThen ?_ | refine eThen ?_ | refine nBlock ?_ | refine eBlock ?_ | refine fBlock (by decide) ?_ | refine rBlock ?_ | refine nScope ?_ | refine eScope ?_ | refine rScope ?_ | refine AWp.seq ?_ | refine AWp.block ?_ | refine AWp.scope ?_ | refine AWp.text ?_ | refine AWp.skip ?_ | refine AWp.exit ?_ | refine AWp.ret ?_ | refine AWp.label ?_ | refine brK_T (by assumption) ?_ | refine brK_F (by assumption) ?_ | refine brK_mk (fun hb => ?_) (fun hb => ?_) | refine And.intro (by first | assumption | omega | simp only [go_sem, reduceCtorEq]) ?_)
    | ((with_reducible (first | refine rBodyZ ?_ | refine nBodyZ ?_ | refine rBodyQ ?_ | refine nBodyQ ?_)); simp only [go_sem, Nat.reduceAdd, Nat.reduceSub, Nat.reduceMul, Nat.reduceDiv, Nat.reduceMod, Nat.reduceLT, Nat.reduceLeDiff, Nat.reduceEqDiff, Nat.reduceBEq, Nat.reduceBNe, reduceCtorEq, Int.reduceLE, Int.reduceLT, Int.reduceNeg, Int.reduceToNat, Int.reduceAdd, Int.reduceSub, Int.reduceMul, Int.reduceBEq, Int.reduceBNe, Int.reduceEq]))
      simp only [roundQ]
      exact ⟨σ ++ [.cells [ownS (L1 ++ [s])]], [.cells [.i .i64 s.1, .i .i64 s.2.1, .i .i64 s.2.2]], by rw [ownS_app, ← hn, ← hcs]; simp, by simp, KC.app fun o ho => by simp at ho; subst ho; exact cleanO_own _ _, L1 ++ [s], by simp [encS, encSpan], rfl⟩
  · rintro p hp ⟨L1, h1, rfl⟩
    have := encS_map_inj h1
    subst this
    have hown : ∃ o, ownS L = .sl o L.length (encSpans L) := by cases L <;> exact ⟨_, rfl⟩
    obtain ⟨o, ho⟩ := hown
    simp only [ho]
    repeat' (first
    | ((first | ((with_reducible refine awOps_move ?_ ?_); decide +kernel) | ((with_reducible refine awOps_load ?_ ?_); decide +kernel) | ((with_reducible refine awOps_one ?_ ?_); decide +kernel) | (with_reducible refine awOps_feed ?_) | ((with_reducible refine awOps_g ?_); refine awOps_guard rfl ?_) | ((with_reducible refine awT_one ?_ ?_); decide +kernel) | ((with_reducible refine awT_call ?_ ?_); decide +kernel) | ((with_reducible refine awT_g ?_); refine awT_guard rfl ?_) | ((with_reducible refine awU_one ?_ ?_); decide +kernel) | ((with_reducible refine awU_call ?_ ?_); decide +kernel) | ((with_reducible refine awU_g ?_); refine awU_guard rfl ?_) | (with_reducible refine AWp.condH ?_)); intro K Q' hK hQ; simp only [go_sem, Nat.reduceAdd, Nat.reduceSub, Nat.reduceMul, Nat.reduceDiv, Nat.reduceMod, Nat.reduceLT, Nat.reduceLeDiff, Nat.reduceEqDiff, Nat.reduceBEq, Nat.reduceBNe, reduceCtorEq, Int.reduceLE, Int.reduceLT, Int.reduceNeg, Int.reduceToNat, Int.reduceAdd, Int.reduceSub, Int.reduceMul, Int.reduceBEq, Int.reduceBNe, Int.reduceEq]; subst hK hQ)
    | ((with_reducible refine AWp.drawT Try.follows ?_ ?_); decide +kernel) | ((with_reducible refine AWp.drawU Try.follows ?_ ?_); decide +kernel)
    | with_reducible (first | refine awOps_end ?_ | refine awT_end ?_ | refine awU_end ?_ | refine nThen ?_ | refine putKn ?_ | refine nSuf ?_ | refine rThen ?_ | refine eThen ?_ | refine nBlock ?_ | refine eBlock ?_ | refine fBlock (by decide) ?_ | refine rBlock ?_ | refine nScope ?_ | refine eScope ?_ | refine rScope ?_ | refine AWp.seq ?_ | refine AWp.block ?_ | refine AWp.scope ?_ | refine AWp.text ?_ | refine AWp.skip ?_ | refine AWp.exit ?_ | refine AWp.ret ?_ | refine AWp.label ?_ | refine brK_T (by assumption) ?_ | refine brK_F (by assumption) ?_ | refine brK_mk (fun hb => ?_) (fun hb => ?_) | refine And.intro (by first | assumption | omega | simp only [go_sem, reduceCtorEq]) ?_)
    | ((with_reducible (first | refine rBodyZ ?_ | refine nBodyZ ?_ | refine rBodyQ ?_ | refine nBodyQ ?_)); simp only [go_sem, Nat.reduceAdd, Nat.reduceSub, Nat.reduceMul, Nat.reduceDiv, Nat.reduceMod, Nat.reduceLT, Nat.reduceLeDiff, Nat.reduceEqDiff, Nat.reduceBEq, Nat.reduceBNe, reduceCtorEq, Int.reduceLE, Int.reduceLT, Int.reduceNeg, Int.reduceToNat, Int.reduceAdd, Int.reduceSub, Int.reduceMul, Int.reduceBEq, Int.reduceBNe, Int.reduceEq]))
    exact ⟨rfl, rfl⟩

theorem collect {f : FuncId} {fn : Func} {c : Code} {cap : List AV} {L : List Span} (hf : Try.prog.funcs[f]? = some fn) (hb : fn.body = some c) (hng : (fn.name == "runtime.NumGoroutine") = false) (hit : Iter Try.prog G0 f (cap.map AV.pl) (L.map encS)) (hL : L.length ≤ 1099511627776) (σ : AState) :
    ACalls Try.prog G0 20 [.fn f cap] σ (retIs (.sl .no L.length (encSpans L)) σ) := by
  refine ACalls.bodyZ G0_pl Try.func20 rfl (by rfl) (by decide) ?_; simp only [Try.ntmps20, List.replicate, go_sem, Nat.reduceAdd, Nat.reduceSub]
  repeat' (first
    | ((first | ((with_reducible refine awOps_move ?_ ?_); decide +kernel) | ((with_reducible refine awOps_load ?_ ?_); decide +kernel) | ((with_reducible refine awOps_one ?_ ?_); decide +kernel) | (with_reducible refine awOps_feed ?_) | ((with_reducible refine awOps_g ?_); refine awOps_guard rfl ?_) | ((with_reducible refine awT_one ?_ ?_); decide +kernel) | ((with_reducible refine awT_call ?_ ?_); decide +kernel) | ((with_reducible refine awT_g ?_); refine awT_guard rfl ?_) | ((with_reducible refine awU_one ?_ ?_); decide +kernel) | ((with_reducible refine awU_call ?_ ?_); decide +kernel) | ((with_reducible refine awU_g ?_); refine awU_guard rfl ?_) | (with_reducible refine AWp.condH ?_)); intro K Q' hK hQ; simp only [go_sem, Nat.reduceAdd, Nat.reduceSub, Nat.reduceMul, Nat.reduceDiv, Nat.reduceMod, Nat.reduceLT, Nat.reduceLeDiff, Nat.reduceEqDiff, Nat.reduceBEq, Nat.reduceBNe, reduceCtorEq, Int.reduceLE, Int.reduceLT, Int.reduceNeg, Int.reduceToNat, Int.reduceAdd, Int.reduceSub, Int.reduceMul, Int.reduceBEq, Int.reduceBNe, Int.reduceEq]; subst hK hQ)
    | ((with_reducible refine AWp.drawT Try.follows ?_ ?_); decide +kernel) | ((with_reducible refine AWp.drawU Try.follows ?_ ?_); decide +kernel)
    | with_reducible (first | refine awOps_end ?_ | refine awT_end ?_ | refine awU_end ?_ | refine nThen ?_ | refine putKn ?_ | refine nSuf ?_ | refine rThen ?_ | refine eThen ?_ | refine nBlock ?_ | refine eBlock ?_ | refine fBlock (by decide) ?_ | refine rBlock ?_ | refine nScope ?_ | refine eScope ?_ | refine rScope ?_ | refine AWp.seq ?_ | refine AWp.block ?_ | refine AWp.scope ?_ | refine AWp.text ?_ | refine AWp.skip ?_ | refine AWp.exit ?_ | refine AWp.ret ?_ | refine AWp.label ?_ | refine brK_T (by assumption) ?_ | refine brK_F (by assumption) ?_ | refine brK_mk (fun hb => ?_) (fun hb => ?_) | refine And.intro (by first | assumption | omega | simp only [go_sem, reduceCtorEq]) ?_)
    | ((with_reducible (first | refine rBodyZ ?_ | refine nBodyZ ?_ | refine rBodyQ ?_ | refine nBodyQ ?_)); simp only [go_sem, Nat.reduceAdd, Nat.reduceSub, Nat.reduceMul, Nat.reduceDiv, Nat.reduceMod, Nat.reduceLT, Nat.reduceLeDiff, Nat.reduceEqDiff, Nat.reduceBEq, Nat.reduceBNe, reduceCtorEq, Int.reduceLE, Int.reduceLT, Int.reduceNeg, Int.reduceToNat, Int.reduceAdd, Int.reduceSub, Int.reduceMul, Int.reduceBEq, Int.reduceBNe, Int.reduceEq]))
  refine ACalls.use (appendSeq hf hb hng hit hL σ) ?_
  repeat' (first
    | ((first | ((with_reducible refine awOps_move ?_ ?_); decide +kernel) | ((with_reducible refine awOps_load ?_ ?_); decide +kernel) | ((with_reducible refine awOps_one ?_ ?_); decide +kernel) | (with_reducible refine awOps_feed ?_) | ((with_reducible refine awOps_g ?_); refine awOps_guard rfl ?_) | ((with_reducible refine awT_one ?_ ?_); decide +kernel) | ((with_reducible refine awT_call ?_ ?_); decide +kernel) | ((with_reducible refine awT_g ?_); refine awT_guard rfl ?_) | ((with_reducible refine awU_one ?_ ?_); decide +kernel) | ((with_reducible refine awU_call ?_ ?_); decide +kernel) | ((with_reducible refine awU_g ?_); refine awU_guard rfl ?_) | (with_reducible refine AWp.condH ?_)); intro K Q' hK hQ; simp only [go_sem, Nat.reduceAdd, Nat.reduceSub, Nat.reduceMul, Nat.reduceDiv, Nat.reduceMod, Nat.reduceLT, Nat.reduceLeDiff, Nat.reduceEqDiff, Nat.reduceBEq, Nat.reduceBNe, reduceCtorEq, Int.reduceLE, Int.reduceLT, Int.reduceNeg, Int.reduceToNat, Int.reduceAdd, Int.reduceSub, Int.reduceMul, Int.reduceBEq, Int.reduceBNe, Int.reduceEq]; subst hK hQ)
    | ((with_reducible refine AWp.drawT Try.follows ?_ ?_); decide +kernel) | ((with_reducible refine AWp.drawU Try.follows ?_ ?_); decide +kernel)
    | with_reducible (first | refine awOps_end ?_ | refine awT_end ?_ | refine awU_end ?_ | refine nThen ?_ | refine putKn ?_ | refine nSuf ?_ | refine rThen ?_ | refine eThen ?_ | refine nBlock ?_ | refine eBlock ?_ | refine fBlock (by decide) ?_ | refine rBlock ?_ | refine nScope ?_ | refine eScope ?_ | refine rScope ?_ | refine AWp.seq ?_ | refine AWp.block ?_ | refine AWp.scope ?_ | refine AWp.text ?_ | refine AWp.skip ?_ | refine AWp.exit ?_ | refine AWp.ret ?_ | refine AWp.label ?_ | refine brK_T (by assumption) ?_ | refine brK_F (by assumption) ?_ | refine brK_mk (fun hb => ?_) (fun hb => ?_) | refine And.intro (by first | assumption | omega | simp only [go_sem, reduceCtorEq]) ?_)
    | ((with_reducible (first | refine rBodyZ ?_ | refine nBodyZ ?_ | refine rBodyQ ?_ | refine nBodyQ ?_)); simp only [go_sem, Nat.reduceAdd, Nat.reduceSub, Nat.reduceMul, Nat.reduceDiv, Nat.reduceMod, Nat.reduceLT, Nat.reduceLeDiff, Nat.reduceEqDiff, Nat.reduceBEq, Nat.reduceBNe, reduceCtorEq, Int.reduceLE, Int.reduceLT, Int.reduceNeg, Int.reduceToNat, Int.reduceAdd, Int.reduceSub, Int.reduceMul, Int.reduceBEq, Int.reduceBNe, Int.reduceEq]))
  exact ⟨rfl, rfl⟩

theorem rows (l : List Int) (σ : AState) : ACalls Try.prog G0 21 [.sl .no l.length (encInts l)] σ (retIs (.fn 35 [.pi [.sl .no l.length (encInts l)] 0]) σ) := by
  refine ACalls.bodyZ G0_pl Try.func21 rfl (by rfl) (by decide) ?_; simp only [Try.ntmps21, List.replicate, go_sem, Nat.reduceAdd, Nat.reduceSub]
  repeat' (first
    | ((first | ((with_reducible refine awOps_move ?_ ?_); decide +kernel) | ((with_reducible refine awOps_load ?_ ?_); decide +kernel) | ((with_reducible refine awOps_one ?_ ?_); decide +kernel) | (with_reducible refine awOps_feed ?_) | ((with_reducible refine awOps_g ?_); refine awOps_guard rfl ?_) | ((with_reducible refine awT_one ?_ ?_); decide +kernel) | ((with_reducible refine awT_call ?_ ?_); decide +kernel) | ((with_reducible refine awT_g ?_); refine awT_guard rfl ?_) | ((with_reducible refine awU_one ?_ ?_); decide +kernel) | ((with_reducible refine awU_call ?_ ?_); decide +kernel) | ((with_reducible refine awU_g ?_); refine awU_guard rfl ?_) | (with_reducible refine AWp.condH ?_)); intro K Q' hK hQ; simp only [go_sem, Nat.reduceAdd, Nat.reduceSub, Nat.reduceMul, Nat.reduceDiv, Nat.reduceMod, Nat.reduceLT, Nat.reduceLeDiff, Nat.reduceEqDiff, Nat.reduceBEq, Nat.reduceBNe, reduceCtorEq, Int.reduceLE, Int.reduceLT, Int.reduceNeg, Int.reduceToNat, Int.reduceAdd, Int.reduceSub, Int.reduceMul, Int.reduceBEq, Int.reduceBNe, Int.reduceEq]; subst hK hQ)
    | ((with_reducible refine AWp.drawT Try.follows ?_ ?_); decide +kernel) | ((with_reducible refine AWp.drawU Try.follows ?_ ?_); decide +kernel)
    | with_reducible (first | refine awOps_end ?_ | refine awT_end ?_ | refine awU_end ?_ | refine nThen ?_ | refine putKn ?_ | refine nSuf ?_ | refine rThen ?_ | refine eThen ?_ | refine nBlock ?_ | refine eBlock ?_ | refine fBlock (by decide) ?_ | refine rBlock ?_ | refine nScope ?_ | refine eScope ?_ | refine rScope ?_ | refine AWp.seq ?_ | refine AWp.block ?_ | refine AWp.scope ?_ | refine AWp.text ?_ | refine AWp.skip ?_ | refine AWp.exit ?_ | refine AWp.ret ?_ | refine AWp.label ?_ | refine brK_T (by assumption) ?_ | refine brK_F (by assumption) ?_ | refine brK_mk (fun hb => ?_) (fun hb => ?_) | refine And.intro (by first | assumption | omega | simp only [go_sem, reduceCtorEq]) ?_)
    | ((with_reducible (first | refine rBodyZ ?_ | refine nBodyZ ?_ | refine rBodyQ ?_ | refine nBodyQ ?_)); simp only [go_sem, Nat.reduceAdd, Nat.reduceSub, Nat.reduceMul, Nat.reduceDiv, Nat.reduceMod, Nat.reduceLT, Nat.reduceLeDiff, Nat.reduceEqDiff, Nat.reduceBEq, Nat.reduceBNe, reduceCtorEq, Int.reduceLE, Int.reduceLT, Int.reduceNeg, Int.reduceToNat, Int.reduceAdd, Int.reduceSub, Int.reduceMul, Int.reduceBEq, Int.reduceBNe, Int.reduceEq]))
  exact ⟨rfl, rfl⟩

theorem spans (l : List Int) (hl : l.length ≤ 1099511627776) (σ : AState) : ACalls Try.prog G0 10 [.sl .no l.length (encInts l)] σ (retIs (.sl .no (spansFrom l 0).length (encSpans (spansFrom l 0))) σ) := by
  refine ACalls.bodyZ G0_pl Try.func10 rfl (by rfl) (by decide) ?_; simp only [Try.ntmps10, List.replicate, go_sem, Nat.reduceAdd, Nat.reduceSub]
  repeat' (first
    | ((first | ((with_reducible refine awOps_move ?_ ?_); decide +kernel) | ((with_reducible refine awOps_load ?_ ?_); decide +kernel) | ((with_reducible refine awOps_one ?_ ?_); decide +kernel) | (with_reducible refine awOps_feed ?_) | ((with_reducible refine awOps_g ?_); refine awOps_guard rfl ?_) | ((with_reducible refine awT_one ?_ ?_); decide +kernel) | ((with_reducible refine awT_call ?_ ?_); decide +kernel) | ((with_reducible refine awT_g ?_); refine awT_guard rfl ?_) | ((with_reducible refine awU_one ?_ ?_); decide +kernel) | ((with_reducible refine awU_call ?_ ?_); decide +kernel) | ((with_reducible refine awU_g ?_); refine awU_guard rfl ?_) | (with_reducible refine AWp.condH ?_)); intro K Q' hK hQ; simp only [go_sem, Nat.reduceAdd, Nat.reduceSub, Nat.reduceMul, Nat.reduceDiv, Nat.reduceMod, Nat.reduceLT, Nat.reduceLeDiff, Nat.reduceEqDiff, Nat.reduceBEq, Nat.reduceBNe, reduceCtorEq, Int.reduceLE, Int.reduceLT, Int.reduceNeg, Int.reduceToNat, Int.reduceAdd, Int.reduceSub, Int.reduceMul, Int.reduceBEq, Int.reduceBNe, Int.reduceEq]; subst hK hQ)
    | ((with_reducible refine AWp.drawT Try.follows ?_ ?_); decide +kernel) | ((with_reducible refine AWp.drawU Try.follows ?_ ?_); decide +kernel)
    | with_reducible (first | refine awOps_end ?_ | refine awT_end ?_ | refine awU_end ?_ | refine nThen ?_ | refine putKn ?_ | refine nSuf ?_ | refine rThen ?_ | refine eThen ?_ | refine nBlock ?_ | refine eBlock ?_ | refine fBlock (by decide) ?_ | refine rBlock ?_ | refine nScope ?_ | refine eScope ?_ | refine rScope ?_ | refine AWp.seq ?_ | refine AWp.block ?_ | refine AWp.scope ?_ | refine AWp.text ?_ | refine AWp.skip ?_ | refine AWp.exit ?_ | refine AWp.ret ?_ | refine AWp.label ?_ | refine brK_T (by assumption) ?_ | refine brK_F (by assumption) ?_ | refine brK_mk (fun hb => ?_) (fun hb => ?_) | refine And.intro (by first | assumption | omega | simp only [go_sem, reduceCtorEq]) ?_)
    | ((with_reducible (first | refine rBodyZ ?_ | refine nBodyZ ?_ | refine rBodyQ ?_ | refine nBodyQ ?_)); simp only [go_sem, Nat.reduceAdd, Nat.reduceSub, Nat.reduceMul, Nat.reduceDiv, Nat.reduceMod, Nat.reduceLT, Nat.reduceLeDiff, Nat.reduceEqDiff, Nat.reduceBEq, Nat.reduceBNe, reduceCtorEq, Int.reduceLE, Int.reduceLT, Int.reduceNeg, Int.reduceToNat, Int.reduceAdd, Int.reduceSub, Int.reduceMul, Int.reduceBEq, Int.reduceBNe, Int.reduceEq]))
  refine ACalls.use (rows l σ) ?_
  repeat' (first
    | ((first | ((with_reducible refine awOps_move ?_ ?_); decide +kernel) | ((with_reducible refine awOps_load ?_ ?_); decide +kernel) | ((with_reducible refine awOps_one ?_ ?_); decide +kernel) | (with_reducible refine awOps_feed ?_) | ((with_reducible refine awOps_g ?_); refine awOps_guard rfl ?_) | ((with_reducible refine awT_one ?_ ?_); decide +kernel) | ((with_reducible refine awT_call ?_ ?_); decide +kernel) | ((with_reducible refine awT_g ?_); refine awT_guard rfl ?_) | ((with_reducible refine awU_one ?_ ?_); decide +kernel) | ((with_reducible refine awU_call ?_ ?_); decide +kernel) | ((with_reducible refine awU_g ?_); refine awU_guard rfl ?_) | (with_reducible refine AWp.condH ?_)); intro K Q' hK hQ; simp only [go_sem, Nat.reduceAdd, Nat.reduceSub, Nat.reduceMul, Nat.reduceDiv, Nat.reduceMod, Nat.reduceLT, Nat.reduceLeDiff, Nat.reduceEqDiff, Nat.reduceBEq, Nat.reduceBNe, reduceCtorEq, Int.reduceLE, Int.reduceLT, Int.reduceNeg, Int.reduceToNat, Int.reduceAdd, Int.reduceSub, Int.reduceMul, Int.reduceBEq, Int.reduceBNe, Int.reduceEq]; subst hK hQ)
    | ((with_reducible refine AWp.drawT Try.follows ?_ ?_); decide +kernel) | ((with_reducible refine AWp.drawU Try.follows ?_ ?_); decide +kernel)
    | with_reducible (first | refine awOps_end ?_ | refine awT_end ?_ | refine awU_end ?_ | refine nThen ?_ | refine putKn ?_ | refine nSuf ?_ | refine rThen ?_ | refine eThen ?_ | refine nBlock ?_ | refine eBlock ?_ | refine fBlock (by decide) ?_ | refine rBlock ?_ | refine nScope ?_ | refine eScope ?_ | refine rScope ?_ | refine AWp.seq ?_ | refine AWp.block ?_ | refine AWp.scope ?_ | refine AWp.text ?_ | refine AWp.skip ?_ | refine AWp.exit ?_ | refine AWp.ret ?_ | refine AWp.label ?_ | refine brK_T (by assumption) ?_ | refine brK_F (by assumption) ?_ | refine brK_mk (fun hb => ?_) (fun hb => ?_) | refine And.intro (by first | assumption | omega | simp only [go_sem, reduceCtorEq]) ?_)
    | ((with_reducible (first | refine rBodyZ ?_ | refine nBodyZ ?_ | refine rBodyQ ?_ | refine nBodyQ ?_)); simp only [go_sem, Nat.reduceAdd, Nat.reduceSub, Nat.reduceMul, Nat.reduceDiv, Nat.reduceMod, Nat.reduceLT, Nat.reduceLeDiff, Nat.reduceEqDiff, Nat.reduceBEq, Nat.reduceBNe, reduceCtorEq, Int.reduceLE, Int.reduceLT, Int.reduceNeg, Int.reduceToNat, Int.reduceAdd, Int.reduceSub, Int.reduceMul, Int.reduceBEq, Int.reduceBNe, Int.reduceEq]))
  refine ACalls.use (collect (L := spansFrom l 0) (cap := [.pi [.sl .no l.length (encInts l)] 0]) Try.func35 rfl (by rfl) (rows1 l (by omega)) (Nat.le_trans (spansFrom_len l _ 0 (Nat.le_refl _)) (by omega)) σ) ?_
  repeat' (first
    | ((first | ((with_reducible refine awOps_move ?_ ?_); decide +kernel) | ((with_reducible refine awOps_load ?_ ?_); decide +kernel) | ((with_reducible refine awOps_one ?_ ?_); decide +kernel) | (with_reducible refine awOps_feed ?_) | ((with_reducible refine awOps_g ?_); refine awOps_guard rfl ?_) | ((with_reducible refine awT_one ?_ ?_); decide +kernel) | ((with_reducible refine awT_call ?_ ?_); decide +kernel) | ((with_reducible refine awT_g ?_); refine awT_guard rfl ?_) | ((with_reducible refine awU_one ?_ ?_); decide +kernel) | ((with_reducible refine awU_call ?_ ?_); decide +kernel) | ((with_reducible refine awU_g ?_); refine awU_guard rfl ?_) | (with_reducible refine AWp.condH ?_)); intro K Q' hK hQ; simp only [go_sem, Nat.reduceAdd, Nat.reduceSub, Nat.reduceMul, Nat.reduceDiv, Nat.reduceMod, Nat.reduceLT, Nat.reduceLeDiff, Nat.reduceEqDiff, Nat.reduceBEq, Nat.reduceBNe, reduceCtorEq, Int.reduceLE, Int.reduceLT, Int.reduceNeg, Int.reduceToNat, Int.reduceAdd, Int.reduceSub, Int.reduceMul, Int.reduceBEq, Int.reduceBNe, Int.reduceEq]; subst hK hQ)
    | ((with_reducible refine AWp.drawT Try.follows ?_ ?_); decide +kernel) | ((with_reducible refine AWp.drawU Try.follows ?_ ?_); decide +kernel)
    | with_reducible (first | refine awOps_end ?_ | refine awT_end ?_ | refine awU_end ?_ | refine nThen ?_ | refine putKn ?_ | refine nSuf ?_ | refine rThen ?_ | refine eThen ?_ | refine nBlock ?_ | refine eBlock ?_ | refine fBlock (by decide) ?_ | refine rBlock ?_ | refine nScope ?_ | refine eScope ?_ | refine rScope ?_ | refine AWp.seq ?_ | refine AWp.block ?_ | refine AWp.scope ?_ | refine AWp.text ?_ | refine AWp.skip ?_ | refine AWp.exit ?_ | refine AWp.ret ?_ | refine AWp.label ?_ | refine brK_T (by assumption) ?_ | refine brK_F (by assumption) ?_ | refine brK_mk (fun hb => ?_) (fun hb => ?_) | refine And.intro (by first | assumption | omega | simp only [go_sem, reduceCtorEq]) ?_)
    | ((with_reducible (first | refine rBodyZ ?_ | refine nBodyZ ?_ | refine rBodyQ ?_ | refine nBodyQ ?_)); simp only [go_sem, Nat.reduceAdd, Nat.reduceSub, Nat.reduceMul, Nat.reduceDiv, Nat.reduceMod, Nat.reduceLT, Nat.reduceLeDiff, Nat.reduceEqDiff, Nat.reduceBEq, Nat.reduceBNe, reduceCtorEq, Int.reduceLE, Int.reduceLT, Int.reduceNeg, Int.reduceToNat, Int.reduceAdd, Int.reduceSub, Int.reduceMul, Int.reduceBEq, Int.reduceBNe, Int.reduceEq]))
  exact ⟨rfl, rfl⟩
end Go.Proofs.Ytoofpdmdgofdcaa.L

namespace Go.Proofs.Ytoofpdmdgofdcaa.L
open Go Go.RowKit Go.Proofs.Ytoofpdmdgofdcaa.E
set_option linter.unusedVariables false
set_option linter.unusedSimpArgs false
set_option maxRecDepth 10000
set_option maxHeartbeats 1000000
theorem same (a b : List Span) (ha : a.length ≤ 281474976710656) (σ : AState) : ACalls Try.prog G0 9 [.sl .no a.length (encSpans a), .sl .no b.length (encSpans b)] σ (retIs (.b (decide (a = b))) σ) := by
  have hfok := fok31
  simp only [go_sem] at hfok
  refine ACalls.bodyZ G0_pl Try.func9 rfl (by rfl) (by decide) ?_; simp only [Try.ntmps9, List.replicate, go_sem, Nat.reduceAdd, Nat.reduceSub]
  repeat' (first
    | ((first | ((with_reducible refine awOps_move ?_ ?_); decide +kernel) | ((with_reducible refine awOps_load ?_ ?_); decide +kernel) | ((with_reducible refine awOps_one ?_ ?_); decide +kernel) | (with_reducible refine awOps_feed ?_) | ((with_reducible refine awOps_g ?_); refine awOps_guard rfl ?_) | ((with_reducible refine awT_one ?_ ?_); decide +kernel) | ((with_reducible refine awT_call ?_ ?_); decide +kernel) | ((with_reducible refine awT_g ?_); refine awT_guard rfl ?_) | ((with_reducible refine awU_one ?_ ?_); decide +kernel) | ((with_reducible refine awU_call ?_ ?_); decide +kernel) | ((with_reducible refine awU_g ?_); refine awU_guard rfl ?_) | (with_reducible refine AWp.condH ?_)); intro K Q' hK hQ; simp only [go_sem, Nat.reduceAdd, Nat.reduceSub, Nat.reduceMul, Nat.reduceDiv, Nat.reduceMod, Nat.reduceLT, Nat.reduceLeDiff, Nat.reduceEqDiff, Nat.reduceBEq, Nat.reduceBNe, reduceCtorEq, Int.reduceLE, Int.reduceLT, Int.reduceNeg, Int.reduceToNat, Int.reduceAdd, Int.reduceSub, Int.reduceMul, Int.reduceBEq, Int.reduceBNe, Int.reduceEq]; subst hK hQ)
    | ((with_reducible refine AWp.drawT Try.follows ?_ ?_); decide +kernel) | ((with_reducible refine AWp.drawU Try.follows ?_ ?_); decide +kernel)
    | with_reducible (first | refine awOps_end ?_ | refine awT_end ?_ | refine awU_end ?_ | refine nThen ?_ | refine putKn ?_ | refine nSuf ?_ | refine rThen ?_ | refine eThen ?_ | refine nBlock ?_ | refine eBlock ?_ | refine fBlock (by decide) ?_ | refine rBlock ?_ | refine nScope ?_ | refine eScope ?_ | refine rScope ?_ | refine AWp.seq ?_ | refine AWp.block ?_ | refine AWp.scope ?_ | refine AWp.text ?_ | refine AWp.skip ?_ | refine AWp.exit ?_ | refine AWp.ret ?_ | refine AWp.label ?_ | refine brK_T (by assumption) ?_ | refine brK_F (by assumption) ?_ | refine brK_mk (fun hb => ?_) (fun hb => ?_) | refine And.intro (by first | assumption | omega | simp only [go_sem, reduceCtorEq]) ?_)
    | ((with_reducible (first | refine rBodyZ ?_ | refine nBodyZ ?_ | refine rBodyQ ?_ | refine nBodyQ ?_)); simp only [go_sem, Nat.reduceAdd, Nat.reduceSub, Nat.reduceMul, Nat.reduceDiv, Nat.reduceMod, Nat.reduceLT, Nat.reduceLeDiff, Nat.reduceEqDiff, Nat.reduceBEq, Nat.reduceBNe, reduceCtorEq, Int.reduceLE, Int.reduceLT, Int.reduceNeg, Int.reduceToNat, Int.reduceAdd, Int.reduceSub, Int.reduceMul, Int.reduceBEq, Int.reduceBNe, Int.reduceEq]))
  · have hne : a ≠ b := fun e => by subst e; simp at hb
    exact ⟨by simp [hne], rfl⟩
  have hlen : a.length = b.length := by
    have : (a.length : Int) = b.length := by simpa using hb
    omega
  refine AWp.loop (α := Nat) (fun k => k ≤ a.length ∧ a.take k = b.take k) (fun k => a.length - k) (fun k => mkE 26 [(0, .sl .no a.length (encSpans a)), (1, .sl .no b.length (encSpans b)), (5, .i .i64 k)]) (fun _ => σ) 0 ⟨Nat.zero_le _, by simp⟩ ?_ ?_ ?_
  · simp only [Int.natCast_zero, go_sem, Nat.reduceAdd, Nat.reduceSub, Nat.reduceMul, Nat.reduceDiv, Nat.reduceMod, Nat.reduceLT, Nat.reduceLeDiff, Nat.reduceEqDiff, Nat.reduceBEq, Nat.reduceBNe, reduceCtorEq, Int.reduceLE, Int.reduceLT, Int.reduceNeg, Int.reduceToNat, Int.reduceAdd, Int.reduceSub, Int.reduceMul, Int.reduceBEq, Int.reduceBNe, Int.reduceEq]
  · exact WeakS.refl _
  rintro k ⟨hk, hkk⟩
  simp only [go_sem, Nat.reduceAdd, Nat.reduceSub, Nat.reduceMul, Nat.reduceDiv, Nat.reduceMod, Nat.reduceLT, Nat.reduceLeDiff, Nat.reduceEqDiff, Nat.reduceBEq, Nat.reduceBNe, reduceCtorEq, Int.reduceLE, Int.reduceLT, Int.reduceNeg, Int.reduceToNat, Int.reduceAdd, Int.reduceSub, Int.reduceMul, Int.reduceBEq, Int.reduceBNe, Int.reduceEq]
  by_cases hlt : k < a.length
  · have hd : decide ((k : Int) < (a.length : Int)) = true := by simp; omega
    have hw := wrapS (k := k) (by omega)
    obtain ⟨h1, h2, h3⟩ := encSpans_get a k a[k] (List.getElem?_eq_getElem hlt)
    obtain ⟨g1, g2, g3⟩ := encSpans_get b k (b[k]'(by omega)) (List.getElem?_eq_getElem (by omega))
    have hr : (0 : Int) ≤ (k : Int) ∧ (k : Int) < (a.length : Int) := by omega
    have hr' : (0 : Int) ≤ (k : Int) ∧ (k : Int) < (b.length : Int) := by omega
    repeat' (first
    | ((first | ((with_reducible refine awOps_move ?_ ?_); decide +kernel) | ((with_reducible refine awOps_load ?_ ?_); decide +kernel) | ((with_reducible refine awOps_one ?_ ?_); decide +kernel) | (with_reducible refine awOps_feed ?_) | ((with_reducible refine awOps_g ?_); refine awOps_guard rfl ?_) | ((with_reducible refine awT_one ?_ ?_); decide +kernel) | ((with_reducible refine awT_call ?_ ?_); decide +kernel) | ((with_reducible refine awT_g ?_); refine awT_guard rfl ?_) | ((with_reducible refine awU_one ?_ ?_); decide +kernel) | ((with_reducible refine awU_call ?_ ?_); decide +kernel) | ((with_reducible refine awU_g ?_); refine awU_guard rfl ?_) | (with_reducible refine AWp.condH ?_)); intro K Q' hK hQ; simp only [hd, hw, h1, h2, h3, g1, g2, g3, hr, hr', hfok, go_sem, Nat.reduceAdd, Nat.reduceSub, Nat.reduceMul, Nat.reduceDiv, Nat.reduceMod, Nat.reduceLT, Nat.reduceLeDiff, Nat.reduceEqDiff, Nat.reduceBEq, Nat.reduceBNe, reduceCtorEq, Int.reduceLE, Int.reduceLT, Int.reduceNeg, Int.reduceToNat, Int.reduceAdd, Int.reduceSub, Int.reduceMul, Int.reduceBEq, Int.reduceBNe, Int.reduceEq]; subst hK hQ)
    | ((with_reducible refine AWp.drawT Try.follows ?_ ?_); decide +kernel) | ((with_reducible refine AWp.drawU Try.follows ?_ ?_); decide +kernel)
    | with_reducible (first | refine awOps_end ?_ | refine awT_end ?_ | refine awU_end ?_ | refine nThen ?_ | refine putKn ?_ | refine nSuf ?_ | refine rThen ?_ | refine eThen ?_ | refine nBlock ?_ | refine eBlock ?_ | refine fBlock (by decide) ?_ | refine rBlock ?_ | refine nScope ?_ | refine eScope ?_ | refine rScope ?_ | refine AWp.seq ?_ | refine AWp.block ?_ | refine AWp.scope ?_ | refine AWp.text ?_ | refine AWp.skip ?_ | refine AWp.exit ?_ | refine AWp.ret ?_ | refine AWp.label ?_ | refine brK_T (by assumption) ?_ | refine brK_F (by assumption) ?_ | refine brK_mk (fun hb => ?_) (fun hb => ?_) | refine And.intro (by first | assumption | omega | simp only [go_sem, reduceCtorEq]) ?_)
    | ((with_reducible (first | refine rBodyZ ?_ | refine nBodyZ ?_ | refine rBodyQ ?_ | refine nBodyQ ?_)); simp only [hd, hw, h1, h2, h3, g1, g2, g3, hr, hr', hfok, go_sem, Nat.reduceAdd, Nat.reduceSub, Nat.reduceMul, Nat.reduceDiv, Nat.reduceMod, Nat.reduceLT, Nat.reduceLeDiff, Nat.reduceEqDiff, Nat.reduceBEq, Nat.reduceBNe, reduceCtorEq, Int.reduceLE, Int.reduceLT, Int.reduceNeg, Int.reduceToNat, Int.reduceAdd, Int.reduceSub, Int.reduceMul, Int.reduceBEq, Int.reduceBNe, Int.reduceEq]))
    · have heq : a[k] = b[k]'(by omega) := by
        simp only [Bool.and_eq_true, beq_iff_eq] at hb
        exact Prod.ext hb.1 (Prod.ext hb.2.1 hb.2.2)
      refine ⟨k + 1, ⟨by omega, ?_⟩, by simp only; omega, by simp only [go_sem, Nat.reduceAdd, Nat.reduceSub, Nat.reduceMul, Nat.reduceDiv, Nat.reduceMod, Nat.reduceLT, Nat.reduceLeDiff, Nat.reduceEqDiff, Nat.reduceBEq, Nat.reduceBNe, reduceCtorEq, Int.reduceLE, Int.reduceLT, Int.reduceNeg, Int.reduceToNat, Int.reduceAdd, Int.reduceSub, Int.reduceMul, Int.reduceBEq, Int.reduceBNe, Int.reduceEq], WeakS.refl _⟩
      rw [List.take_add_one, List.take_add_one, hkk, List.getElem?_eq_getElem hlt, List.getElem?_eq_getElem (by omega), heq]
    · have hne : a ≠ b := fun e => by subst e; simp at hb
      exact ⟨by simp [hne], rfl⟩
  · have hd : decide ((k : Int) < (a.length : Int)) = false := by simp; omega
    repeat' (first
    | ((first | ((with_reducible refine awOps_move ?_ ?_); decide +kernel) | ((with_reducible refine awOps_load ?_ ?_); decide +kernel) | ((with_reducible refine awOps_one ?_ ?_); decide +kernel) | (with_reducible refine awOps_feed ?_) | ((with_reducible refine awOps_g ?_); refine awOps_guard rfl ?_) | ((with_reducible refine awT_one ?_ ?_); decide +kernel) | ((with_reducible refine awT_call ?_ ?_); decide +kernel) | ((with_reducible refine awT_g ?_); refine awT_guard rfl ?_) | ((with_reducible refine awU_one ?_ ?_); decide +kernel) | ((with_reducible refine awU_call ?_ ?_); decide +kernel) | ((with_reducible refine awU_g ?_); refine awU_guard rfl ?_) | (with_reducible refine AWp.condH ?_)); intro K Q' hK hQ; simp only [hd, go_sem, Nat.reduceAdd, Nat.reduceSub, Nat.reduceMul, Nat.reduceDiv, Nat.reduceMod, Nat.reduceLT, Nat.reduceLeDiff, Nat.reduceEqDiff, Nat.reduceBEq, Nat.reduceBNe, reduceCtorEq, Int.reduceLE, Int.reduceLT, Int.reduceNeg, Int.reduceToNat, Int.reduceAdd, Int.reduceSub, Int.reduceMul, Int.reduceBEq, Int.reduceBNe, Int.reduceEq]; subst hK hQ)
    | ((with_reducible refine AWp.drawT Try.follows ?_ ?_); decide +kernel) | ((with_reducible refine AWp.drawU Try.follows ?_ ?_); decide +kernel)
    | with_reducible (first | refine awOps_end ?_ | refine awT_end ?_ | refine awU_end ?_ | refine nThen ?_ | refine putKn ?_ | refine nSuf ?_ | refine rThen ?_ | refine eThen ?_ | refine nBlock ?_ | refine eBlock ?_ | refine fBlock (by decide) ?_ | refine rBlock ?_ | refine nScope ?_ | refine eScope ?_ | refine rScope ?_ | refine AWp.seq ?_ | refine AWp.block ?_ | refine AWp.scope ?_ | refine AWp.text ?_ | refine AWp.skip ?_ | refine AWp.exit ?_ | refine AWp.ret ?_ | refine AWp.label ?_ | refine brK_T (by assumption) ?_ | refine brK_F (by assumption) ?_ | refine brK_mk (fun hb => ?_) (fun hb => ?_) | refine And.intro (by first | assumption | omega | simp only [go_sem, reduceCtorEq]) ?_)
    | ((with_reducible (first | refine rBodyZ ?_ | refine nBodyZ ?_ | refine rBodyQ ?_ | refine nBodyQ ?_)); simp only [hd, go_sem, Nat.reduceAdd, Nat.reduceSub, Nat.reduceMul, Nat.reduceDiv, Nat.reduceMod, Nat.reduceLT, Nat.reduceLeDiff, Nat.reduceEqDiff, Nat.reduceBEq, Nat.reduceBNe, reduceCtorEq, Int.reduceLE, Int.reduceLT, Int.reduceNeg, Int.reduceToNat, Int.reduceAdd, Int.reduceSub, Int.reduceMul, Int.reduceBEq, Int.reduceBNe, Int.reduceEq]))
    have heq : a = b := by
      rw [List.take_of_length_le (by omega), List.take_of_length_le (by omega)] at hkk
      exact hkk
    exact ⟨by simp [heq], rfl⟩

def lastAt (l : List Span) (k : Nat) : Span := match k with | 0 => (0, 0, 0) | k + 1 => l.getD k (0, 0, 0)
/-- The span at k fits behind the one ahead. -/
def okP (l : List Span) (k : Nat) : Prop := (l.getD k (0, 0, 0)).1 = (lastAt l k).2.1 ∧ (l.getD k (0, 0, 0)).1 < (l.getD k (0, 0, 0)).2.1 ∧ 1 ≤ (l.getD k (0, 0, 0)).2.2 ∧ (l.getD k (0, 0, 0)).2.2 ≤ 9 ∧ (l.getD k (0, 0, 0)).2.2 ≠ (lastAt l k).2.2
instance (l : List Span) (k : Nat) : Decidable (okP l k) := by unfold okP; infer_instance
def coversP (l : List Span) (n : Int) : Prop := (∀ k, k < l.length → okP l k) ∧ (lastAt l l.length).2.1 = n
instance (l : List Span) (n : Int) : Decidable (coversP l n) := by unfold coversP; infer_instance

theorem covers (l : List Span) (n : Int) (σ : AState) (hl : l.length ≤ 281474976710656) : ACalls Try.prog G0 12 [.sl .no l.length (encSpans l), .i .i64 n] σ (retIs (.b (decide (coversP l n))) σ) := by
  refine ACalls.bodyZ G0_pl Try.func12 rfl (by rfl) (by decide) ?_; simp only [Try.ntmps12, List.replicate, go_sem, Nat.reduceAdd, Nat.reduceSub]
  repeat' (first
    | ((first | ((with_reducible refine awOps_move ?_ ?_); decide +kernel) | ((with_reducible refine awOps_load ?_ ?_); decide +kernel) | ((with_reducible refine awOps_one ?_ ?_); decide +kernel) | (with_reducible refine awOps_feed ?_) | ((with_reducible refine awOps_g ?_); refine awOps_guard rfl ?_) | ((with_reducible refine awT_one ?_ ?_); decide +kernel) | ((with_reducible refine awT_call ?_ ?_); decide +kernel) | ((with_reducible refine awT_g ?_); refine awT_guard rfl ?_) | ((with_reducible refine awU_one ?_ ?_); decide +kernel) | ((with_reducible refine awU_call ?_ ?_); decide +kernel) | ((with_reducible refine awU_g ?_); refine awU_guard rfl ?_) | (with_reducible refine AWp.condH ?_)); intro K Q' hK hQ; simp only [go_sem, Nat.reduceAdd, Nat.reduceSub, Nat.reduceMul, Nat.reduceDiv, Nat.reduceMod, Nat.reduceLT, Nat.reduceLeDiff, Nat.reduceEqDiff, Nat.reduceBEq, Nat.reduceBNe, reduceCtorEq, Int.reduceLE, Int.reduceLT, Int.reduceNeg, Int.reduceToNat, Int.reduceAdd, Int.reduceSub, Int.reduceMul, Int.reduceBEq, Int.reduceBNe, Int.reduceEq]; subst hK hQ)
    | ((with_reducible refine AWp.drawT Try.follows ?_ ?_); decide +kernel) | ((with_reducible refine AWp.drawU Try.follows ?_ ?_); decide +kernel)
    | with_reducible (first | refine awOps_end ?_ | refine awT_end ?_ | refine awU_end ?_ | refine nThen ?_ | refine putKn ?_ | refine nSuf ?_ | refine rThen ?_ | refine eThen ?_ | refine nBlock ?_ | refine eBlock ?_ | refine fBlock (by decide) ?_ | refine rBlock ?_ | refine nScope ?_ | refine eScope ?_ | refine rScope ?_ | refine AWp.seq ?_ | refine AWp.block ?_ | refine AWp.scope ?_ | refine AWp.text ?_ | refine AWp.skip ?_ | refine AWp.exit ?_ | refine AWp.ret ?_ | refine AWp.label ?_ | refine brK_T (by assumption) ?_ | refine brK_F (by assumption) ?_ | refine brK_mk (fun hb => ?_) (fun hb => ?_) | refine And.intro (by first | assumption | omega | simp only [go_sem, reduceCtorEq]) ?_)
    | ((with_reducible (first | refine rBodyZ ?_ | refine nBodyZ ?_ | refine rBodyQ ?_ | refine nBodyQ ?_)); simp only [go_sem, Nat.reduceAdd, Nat.reduceSub, Nat.reduceMul, Nat.reduceDiv, Nat.reduceMod, Nat.reduceLT, Nat.reduceLeDiff, Nat.reduceEqDiff, Nat.reduceBEq, Nat.reduceBNe, reduceCtorEq, Int.reduceLE, Int.reduceLT, Int.reduceNeg, Int.reduceToNat, Int.reduceAdd, Int.reduceSub, Int.reduceMul, Int.reduceBEq, Int.reduceBNe, Int.reduceEq]))
  refine AWp.loop (α := Nat × List AObj) (fun x => x.1 ≤ l.length ∧ ∀ j, j < x.1 → okP l j) (fun x => l.length - x.1) (fun x => mkE 50 [(1, .i .i64 n), (5, .pm σ.length 0), (9, .sl .no l.length (encSpans l)), (10, .i .i64 l.length), (11, .i .i64 x.1)]) (fun x => σ ++ (.cells (encSpan (lastAt l x.1)) :: x.2)) (0, []) ⟨Nat.zero_le _, fun j h => by simp at h⟩ ?_ ?_ ?_
  · simp only [Int.natCast_zero, go_sem, Nat.reduceAdd, Nat.reduceSub, Nat.reduceMul, Nat.reduceDiv, Nat.reduceMod, Nat.reduceLT, Nat.reduceLeDiff, Nat.reduceEqDiff, Nat.reduceBEq, Nat.reduceBNe, reduceCtorEq, Int.reduceLE, Int.reduceLT, Int.reduceNeg, Int.reduceToNat, Int.reduceAdd, Int.reduceSub, Int.reduceMul, Int.reduceBEq, Int.reduceBNe, Int.reduceEq]
  · simp only [encSpan, lastAt]
    exact WeakS.refl _
  rintro ⟨k, js⟩ ⟨hk, hok⟩
  simp only at hk hok
  simp only [encSpan, go_sem, Nat.reduceAdd, Nat.reduceSub, Nat.reduceMul, Nat.reduceDiv, Nat.reduceMod, Nat.reduceLT, Nat.reduceLeDiff, Nat.reduceEqDiff, Nat.reduceBEq, Nat.reduceBNe, reduceCtorEq, Int.reduceLE, Int.reduceLT, Int.reduceNeg, Int.reduceToNat, Int.reduceAdd, Int.reduceSub, Int.reduceMul, Int.reduceBEq, Int.reduceBNe, Int.reduceEq]
  by_cases hlt : k < l.length
  · have hd : decide ((k : Int) < (l.length : Int)) = true := by simp; omega
    have hw := wrapS (k := k) (by omega)
    obtain ⟨h1, h2, h3⟩ := encSpans_get l k l[k] (List.getElem?_eq_getElem hlt)
    have hr : (0 : Int) ≤ (k : Int) ∧ (k : Int) < (l.length : Int) := by omega
    have hgd : l.getD k (0, 0, 0) = l[k] := by simp [hlt]
    have bad : ¬ okP l k → decide (coversP l n) = false := fun h => by
      rw [decide_eq_false_iff_not]
      exact fun hc => h (hc.1 k hlt)
    repeat' (first
    | ((first | ((with_reducible refine awOps_move ?_ ?_); decide +kernel) | ((with_reducible refine awOps_load ?_ ?_); decide +kernel) | ((with_reducible refine awOps_one ?_ ?_); decide +kernel) | (with_reducible refine awOps_feed ?_) | ((with_reducible refine awOps_g ?_); refine awOps_guard rfl ?_) | ((with_reducible refine awT_one ?_ ?_); decide +kernel) | ((with_reducible refine awT_call ?_ ?_); decide +kernel) | ((with_reducible refine awT_g ?_); refine awT_guard rfl ?_) | ((with_reducible refine awU_one ?_ ?_); decide +kernel) | ((with_reducible refine awU_call ?_ ?_); decide +kernel) | ((with_reducible refine awU_g ?_); refine awU_guard rfl ?_) | (with_reducible refine AWp.condH ?_)); intro K Q' hK hQ; simp only [hd, hw, hr, h1, h2, h3, go_sem, Nat.reduceAdd, Nat.reduceSub, Nat.reduceMul, Nat.reduceDiv, Nat.reduceMod, Nat.reduceLT, Nat.reduceLeDiff, Nat.reduceEqDiff, Nat.reduceBEq, Nat.reduceBNe, reduceCtorEq, Int.reduceLE, Int.reduceLT, Int.reduceNeg, Int.reduceToNat, Int.reduceAdd, Int.reduceSub, Int.reduceMul, Int.reduceBEq, Int.reduceBNe, Int.reduceEq]; subst hK hQ)
    | ((with_reducible refine AWp.drawT Try.follows ?_ ?_); decide +kernel) | ((with_reducible refine AWp.drawU Try.follows ?_ ?_); decide +kernel)
    | with_reducible (first | refine awOps_end ?_ | refine awT_end ?_ | refine awU_end ?_ | refine nThen ?_ | refine putKn ?_ | refine nSuf ?_ | refine rThen ?_ | refine eThen ?_ | refine nBlock ?_ | refine eBlock ?_ | refine fBlock (by decide) ?_ | refine rBlock ?_ | refine nScope ?_ | refine eScope ?_ | refine rScope ?_ | refine AWp.seq ?_ | refine AWp.block ?_ | refine AWp.scope ?_ | refine AWp.text ?_ | refine AWp.skip ?_ | refine AWp.exit ?_ | refine AWp.ret ?_ | refine AWp.label ?_ | refine brK_T (by assumption) ?_ | refine brK_F (by assumption) ?_ | refine brK_mk (fun hb => ?_) (fun hb => ?_) | refine And.intro (by first | assumption | omega | simp only [go_sem, reduceCtorEq]) ?_)
    | ((with_reducible (first | refine rBodyZ ?_ | refine nBodyZ ?_ | refine rBodyQ ?_ | refine nBodyQ ?_)); simp only [hd, hw, hr, h1, h2, h3, go_sem, Nat.reduceAdd, Nat.reduceSub, Nat.reduceMul, Nat.reduceDiv, Nat.reduceMod, Nat.reduceLT, Nat.reduceLeDiff, Nat.reduceEqDiff, Nat.reduceBEq, Nat.reduceBNe, reduceCtorEq, Int.reduceLE, Int.reduceLT, Int.reduceNeg, Int.reduceToNat, Int.reduceAdd, Int.reduceSub, Int.reduceMul, Int.reduceBEq, Int.reduceBNe, Int.reduceEq]))
    all_goals first
      | exact ⟨by rw [bad (fun h => by unfold okP at h; rw [hgd] at h; simp at *; omega)], rfl⟩
      | skip
    refine ⟨(k + 1, js ++ [.cells [.i .i64 l[k].1, .i .i64 l[k].2.1, .i .i64 l[k].2.2]]), ⟨by omega, fun j hj => ?_⟩, by simp only; omega, by simp only [go_sem, Nat.reduceAdd, Nat.reduceSub, Nat.reduceMul, Nat.reduceDiv, Nat.reduceMod, Nat.reduceLT, Nat.reduceLeDiff, Nat.reduceEqDiff, Nat.reduceBEq, Nat.reduceBNe, reduceCtorEq, Int.reduceLE, Int.reduceLT, Int.reduceNeg, Int.reduceToNat, Int.reduceAdd, Int.reduceSub, Int.reduceMul, Int.reduceBEq, Int.reduceBNe, Int.reduceEq], by simp only [lastAt, hgd]; exact WeakS.refl _⟩
    rcases Nat.lt_or_ge j k with h | h
    · exact hok j h
    · have : j = k := by omega
      subst this
      unfold okP
      rw [hgd]
      simp at *
      exact ⟨by omega, by omega, by omega, by omega, by omega⟩
  · have hd : decide ((k : Int) < (l.length : Int)) = false := by simp; omega
    have hkl : k = l.length := by omega
    subst hkl
    repeat' (first
    | ((first | ((with_reducible refine awOps_move ?_ ?_); decide +kernel) | ((with_reducible refine awOps_load ?_ ?_); decide +kernel) | ((with_reducible refine awOps_one ?_ ?_); decide +kernel) | (with_reducible refine awOps_feed ?_) | ((with_reducible refine awOps_g ?_); refine awOps_guard rfl ?_) | ((with_reducible refine awT_one ?_ ?_); decide +kernel) | ((with_reducible refine awT_call ?_ ?_); decide +kernel) | ((with_reducible refine awT_g ?_); refine awT_guard rfl ?_) | ((with_reducible refine awU_one ?_ ?_); decide +kernel) | ((with_reducible refine awU_call ?_ ?_); decide +kernel) | ((with_reducible refine awU_g ?_); refine awU_guard rfl ?_) | (with_reducible refine AWp.condH ?_)); intro K Q' hK hQ; simp only [hd, go_sem, Nat.reduceAdd, Nat.reduceSub, Nat.reduceMul, Nat.reduceDiv, Nat.reduceMod, Nat.reduceLT, Nat.reduceLeDiff, Nat.reduceEqDiff, Nat.reduceBEq, Nat.reduceBNe, reduceCtorEq, Int.reduceLE, Int.reduceLT, Int.reduceNeg, Int.reduceToNat, Int.reduceAdd, Int.reduceSub, Int.reduceMul, Int.reduceBEq, Int.reduceBNe, Int.reduceEq]; subst hK hQ)
    | ((with_reducible refine AWp.drawT Try.follows ?_ ?_); decide +kernel) | ((with_reducible refine AWp.drawU Try.follows ?_ ?_); decide +kernel)
    | with_reducible (first | refine awOps_end ?_ | refine awT_end ?_ | refine awU_end ?_ | refine nThen ?_ | refine putKn ?_ | refine nSuf ?_ | refine rThen ?_ | refine eThen ?_ | refine nBlock ?_ | refine eBlock ?_ | refine fBlock (by decide) ?_ | refine rBlock ?_ | refine nScope ?_ | refine eScope ?_ | refine rScope ?_ | refine AWp.seq ?_ | refine AWp.block ?_ | refine AWp.scope ?_ | refine AWp.text ?_ | refine AWp.skip ?_ | refine AWp.exit ?_ | refine AWp.ret ?_ | refine AWp.label ?_ | refine brK_T (by assumption) ?_ | refine brK_F (by assumption) ?_ | refine brK_mk (fun hb => ?_) (fun hb => ?_) | refine And.intro (by first | assumption | omega | simp only [go_sem, reduceCtorEq]) ?_)
    | ((with_reducible (first | refine rBodyZ ?_ | refine nBodyZ ?_ | refine rBodyQ ?_ | refine nBodyQ ?_)); simp only [hd, go_sem, Nat.reduceAdd, Nat.reduceSub, Nat.reduceMul, Nat.reduceDiv, Nat.reduceMod, Nat.reduceLT, Nat.reduceLeDiff, Nat.reduceEqDiff, Nat.reduceBEq, Nat.reduceBNe, reduceCtorEq, Int.reduceLE, Int.reduceLT, Int.reduceNeg, Int.reduceToNat, Int.reduceAdd, Int.reduceSub, Int.reduceMul, Int.reduceBEq, Int.reduceBNe, Int.reduceEq]))
    have : decide (coversP l n) = ((lastAt l l.length).2.1 == n) := by
      unfold coversP
      by_cases h : (lastAt l l.length).2.1 = n
      · simp [h]; exact hok
      · simp [h]
    exact ⟨by rw [this], rfl⟩

/-- How many blocks have the class, of the first k spans; as the machine adds. -/
def countTo (l : List Span) (c : Int) : Nat → Int
  | 0 => 0
  | k + 1 => let s := l.getD k (0, 0, 0)
    if s.2.2 = c ∧ s.1 < s.2.1 then IntKind.i64.wrap (countTo l c k + IntKind.i64.wrap (s.2.1 - s.1)) else countTo l c k

theorem count (l : List Span) (c : Int) (σ : AState) (hl : l.length ≤ 281474976710656) : ACalls Try.prog G0 13 [.sl .no l.length (encSpans l), .i .i64 c] σ (retIs (.i .i64 (countTo l c l.length)) σ) := by
  refine ACalls.bodyZ G0_pl Try.func13 rfl (by rfl) (by decide) ?_; simp only [Try.ntmps13, List.replicate, go_sem, Nat.reduceAdd, Nat.reduceSub]
  repeat' (first
    | ((first | ((with_reducible refine awOps_move ?_ ?_); decide +kernel) | ((with_reducible refine awOps_load ?_ ?_); decide +kernel) | ((with_reducible refine awOps_one ?_ ?_); decide +kernel) | (with_reducible refine awOps_feed ?_) | ((with_reducible refine awOps_g ?_); refine awOps_guard rfl ?_) | ((with_reducible refine awT_one ?_ ?_); decide +kernel) | ((with_reducible refine awT_call ?_ ?_); decide +kernel) | ((with_reducible refine awT_g ?_); refine awT_guard rfl ?_) | ((with_reducible refine awU_one ?_ ?_); decide +kernel) | ((with_reducible refine awU_call ?_ ?_); decide +kernel) | ((with_reducible refine awU_g ?_); refine awU_guard rfl ?_) | (with_reducible refine AWp.condH ?_)); intro K Q' hK hQ; simp only [go_sem, Nat.reduceAdd, Nat.reduceSub, Nat.reduceMul, Nat.reduceDiv, Nat.reduceMod, Nat.reduceLT, Nat.reduceLeDiff, Nat.reduceEqDiff, Nat.reduceBEq, Nat.reduceBNe, reduceCtorEq, Int.reduceLE, Int.reduceLT, Int.reduceNeg, Int.reduceToNat, Int.reduceAdd, Int.reduceSub, Int.reduceMul, Int.reduceBEq, Int.reduceBNe, Int.reduceEq]; subst hK hQ)
    | ((with_reducible refine AWp.drawT Try.follows ?_ ?_); decide +kernel) | ((with_reducible refine AWp.drawU Try.follows ?_ ?_); decide +kernel)
    | with_reducible (first | refine awOps_end ?_ | refine awT_end ?_ | refine awU_end ?_ | refine nThen ?_ | refine putKn ?_ | refine nSuf ?_ | refine rThen ?_ | refine eThen ?_ | refine nBlock ?_ | refine eBlock ?_ | refine fBlock (by decide) ?_ | refine rBlock ?_ | refine nScope ?_ | refine eScope ?_ | refine rScope ?_ | refine AWp.seq ?_ | refine AWp.block ?_ | refine AWp.scope ?_ | refine AWp.text ?_ | refine AWp.skip ?_ | refine AWp.exit ?_ | refine AWp.ret ?_ | refine AWp.label ?_ | refine brK_T (by assumption) ?_ | refine brK_F (by assumption) ?_ | refine brK_mk (fun hb => ?_) (fun hb => ?_) | refine And.intro (by first | assumption | omega | simp only [go_sem, reduceCtorEq]) ?_)
    | ((with_reducible (first | refine rBodyZ ?_ | refine nBodyZ ?_ | refine rBodyQ ?_ | refine nBodyQ ?_)); simp only [go_sem, Nat.reduceAdd, Nat.reduceSub, Nat.reduceMul, Nat.reduceDiv, Nat.reduceMod, Nat.reduceLT, Nat.reduceLeDiff, Nat.reduceEqDiff, Nat.reduceBEq, Nat.reduceBNe, reduceCtorEq, Int.reduceLE, Int.reduceLT, Int.reduceNeg, Int.reduceToNat, Int.reduceAdd, Int.reduceSub, Int.reduceMul, Int.reduceBEq, Int.reduceBNe, Int.reduceEq]))
  refine AWp.loop (α := Nat × List AObj) (fun x => x.1 ≤ l.length) (fun x => l.length - x.1) (fun x => mkE 34 [(1, .i .i64 c), (5, .i .i64 (countTo l c x.1)), (8, .sl .no l.length (encSpans l)), (9, .i .i64 l.length), (10, .i .i64 x.1)]) (fun x => σ ++ x.2) (0, []) (Nat.zero_le _) ?_ ?_ ?_
  · simp only [Int.natCast_zero, countTo, go_sem, Nat.reduceAdd, Nat.reduceSub, Nat.reduceMul, Nat.reduceDiv, Nat.reduceMod, Nat.reduceLT, Nat.reduceLeDiff, Nat.reduceEqDiff, Nat.reduceBEq, Nat.reduceBNe, reduceCtorEq, Int.reduceLE, Int.reduceLT, Int.reduceNeg, Int.reduceToNat, Int.reduceAdd, Int.reduceSub, Int.reduceMul, Int.reduceBEq, Int.reduceBNe, Int.reduceEq]
  · simp only [List.append_nil]
    exact WeakS.refl _
  rintro ⟨k, js⟩ hk
  simp only at hk
  simp only [go_sem, Nat.reduceAdd, Nat.reduceSub, Nat.reduceMul, Nat.reduceDiv, Nat.reduceMod, Nat.reduceLT, Nat.reduceLeDiff, Nat.reduceEqDiff, Nat.reduceBEq, Nat.reduceBNe, reduceCtorEq, Int.reduceLE, Int.reduceLT, Int.reduceNeg, Int.reduceToNat, Int.reduceAdd, Int.reduceSub, Int.reduceMul, Int.reduceBEq, Int.reduceBNe, Int.reduceEq]
  by_cases hlt : k < l.length
  · have hd : decide ((k : Int) < (l.length : Int)) = true := by simp; omega
    have hw := wrapS (k := k) (by omega)
    obtain ⟨h1, h2, h3⟩ := encSpans_get l k l[k] (List.getElem?_eq_getElem hlt)
    have hr : (0 : Int) ≤ (k : Int) ∧ (k : Int) < (l.length : Int) := by omega
    have hgd : l.getD k (0, 0, 0) = l[k] := by simp [hlt]
    repeat' (first
    | ((first | ((with_reducible refine awOps_move ?_ ?_); decide +kernel) | ((with_reducible refine awOps_load ?_ ?_); decide +kernel) | ((with_reducible refine awOps_one ?_ ?_); decide +kernel) | (with_reducible refine awOps_feed ?_) | ((with_reducible refine awOps_g ?_); refine awOps_guard rfl ?_) | ((with_reducible refine awT_one ?_ ?_); decide +kernel) | ((with_reducible refine awT_call ?_ ?_); decide +kernel) | ((with_reducible refine awT_g ?_); refine awT_guard rfl ?_) | ((with_reducible refine awU_one ?_ ?_); decide +kernel) | ((with_reducible refine awU_call ?_ ?_); decide +kernel) | ((with_reducible refine awU_g ?_); refine awU_guard rfl ?_) | (with_reducible refine AWp.condH ?_)); intro K Q' hK hQ; simp only [hd, hw, hr, h1, h2, h3, go_sem, Nat.reduceAdd, Nat.reduceSub, Nat.reduceMul, Nat.reduceDiv, Nat.reduceMod, Nat.reduceLT, Nat.reduceLeDiff, Nat.reduceEqDiff, Nat.reduceBEq, Nat.reduceBNe, reduceCtorEq, Int.reduceLE, Int.reduceLT, Int.reduceNeg, Int.reduceToNat, Int.reduceAdd, Int.reduceSub, Int.reduceMul, Int.reduceBEq, Int.reduceBNe, Int.reduceEq]; subst hK hQ)
    | ((with_reducible refine AWp.drawT Try.follows ?_ ?_); decide +kernel) | ((with_reducible refine AWp.drawU Try.follows ?_ ?_); decide +kernel)
    | with_reducible (first | refine awOps_end ?_ | refine awT_end ?_ | refine awU_end ?_ | refine nThen ?_ | refine putKn ?_ | refine nSuf ?_ | refine rThen ?_ | refine eThen ?_ | refine nBlock ?_ | refine eBlock ?_ | refine fBlock (by decide) ?_ | refine rBlock ?_ | refine nScope ?_ | refine eScope ?_ | refine rScope ?_ | refine AWp.seq ?_ | refine AWp.block ?_ | refine AWp.scope ?_ | refine AWp.text ?_ | refine AWp.skip ?_ | refine AWp.exit ?_ | refine AWp.ret ?_ | refine AWp.label ?_ | refine brK_T (by assumption) ?_ | refine brK_F (by assumption) ?_ | refine brK_mk (fun hb => ?_) (fun hb => ?_) | refine And.intro (by first | assumption | omega | simp only [go_sem, reduceCtorEq]) ?_)
    | ((with_reducible (first | refine rBodyZ ?_ | refine nBodyZ ?_ | refine rBodyQ ?_ | refine nBodyQ ?_)); simp only [hd, hw, hr, h1, h2, h3, go_sem, Nat.reduceAdd, Nat.reduceSub, Nat.reduceMul, Nat.reduceDiv, Nat.reduceMod, Nat.reduceLT, Nat.reduceLeDiff, Nat.reduceEqDiff, Nat.reduceBEq, Nat.reduceBNe, reduceCtorEq, Int.reduceLE, Int.reduceLT, Int.reduceNeg, Int.reduceToNat, Int.reduceAdd, Int.reduceSub, Int.reduceMul, Int.reduceBEq, Int.reduceBNe, Int.reduceEq]))
    all_goals
      refine ⟨(k + 1, js ++ [.cells [.i .i64 l[k].1, .i .i64 l[k].2.1, .i .i64 l[k].2.2]]), (by omega), by simp only; omega, ?_, WeakS.refl _⟩
      simp only [beq_iff_eq, beq_eq_false_iff_ne, decide_eq_true_eq, decide_eq_false_iff_not, ne_eq] at *
      have hc := countTo.eq_2 l c k
      simp only [hgd, Nat.succ_eq_add_one] at hc
      first
        | rw [if_pos (by omega)] at hc
        | rw [if_neg (by omega)] at hc
      simp only [hc, go_sem, Nat.reduceAdd, Nat.reduceSub, Nat.reduceMul, Nat.reduceDiv, Nat.reduceMod, Nat.reduceLT, Nat.reduceLeDiff, Nat.reduceEqDiff, Nat.reduceBEq, Nat.reduceBNe, reduceCtorEq, Int.reduceLE, Int.reduceLT, Int.reduceNeg, Int.reduceToNat, Int.reduceAdd, Int.reduceSub, Int.reduceMul, Int.reduceBEq, Int.reduceBNe, Int.reduceEq]
  · have hd : decide ((k : Int) < (l.length : Int)) = false := by simp; omega
    have hkl : k = l.length := by omega
    subst hkl
    repeat' (first
    | ((first | ((with_reducible refine awOps_move ?_ ?_); decide +kernel) | ((with_reducible refine awOps_load ?_ ?_); decide +kernel) | ((with_reducible refine awOps_one ?_ ?_); decide +kernel) | (with_reducible refine awOps_feed ?_) | ((with_reducible refine awOps_g ?_); refine awOps_guard rfl ?_) | ((with_reducible refine awT_one ?_ ?_); decide +kernel) | ((with_reducible refine awT_call ?_ ?_); decide +kernel) | ((with_reducible refine awT_g ?_); refine awT_guard rfl ?_) | ((with_reducible refine awU_one ?_ ?_); decide +kernel) | ((with_reducible refine awU_call ?_ ?_); decide +kernel) | ((with_reducible refine awU_g ?_); refine awU_guard rfl ?_) | (with_reducible refine AWp.condH ?_)); intro K Q' hK hQ; simp only [hd, go_sem, Nat.reduceAdd, Nat.reduceSub, Nat.reduceMul, Nat.reduceDiv, Nat.reduceMod, Nat.reduceLT, Nat.reduceLeDiff, Nat.reduceEqDiff, Nat.reduceBEq, Nat.reduceBNe, reduceCtorEq, Int.reduceLE, Int.reduceLT, Int.reduceNeg, Int.reduceToNat, Int.reduceAdd, Int.reduceSub, Int.reduceMul, Int.reduceBEq, Int.reduceBNe, Int.reduceEq]; subst hK hQ)
    | ((with_reducible refine AWp.drawT Try.follows ?_ ?_); decide +kernel) | ((with_reducible refine AWp.drawU Try.follows ?_ ?_); decide +kernel)
    | with_reducible (first | refine awOps_end ?_ | refine awT_end ?_ | refine awU_end ?_ | refine nThen ?_ | refine putKn ?_ | refine nSuf ?_ | refine rThen ?_ | refine eThen ?_ | refine nBlock ?_ | refine eBlock ?_ | refine fBlock (by decide) ?_ | refine rBlock ?_ | refine nScope ?_ | refine eScope ?_ | refine rScope ?_ | refine AWp.seq ?_ | refine AWp.block ?_ | refine AWp.scope ?_ | refine AWp.text ?_ | refine AWp.skip ?_ | refine AWp.exit ?_ | refine AWp.ret ?_ | refine AWp.label ?_ | refine brK_T (by assumption) ?_ | refine brK_F (by assumption) ?_ | refine brK_mk (fun hb => ?_) (fun hb => ?_) | refine And.intro (by first | assumption | omega | simp only [go_sem, reduceCtorEq]) ?_)
    | ((with_reducible (first | refine rBodyZ ?_ | refine nBodyZ ?_ | refine rBodyQ ?_ | refine nBodyQ ?_)); simp only [hd, go_sem, Nat.reduceAdd, Nat.reduceSub, Nat.reduceMul, Nat.reduceDiv, Nat.reduceMod, Nat.reduceLT, Nat.reduceLeDiff, Nat.reduceEqDiff, Nat.reduceBEq, Nat.reduceBNe, reduceCtorEq, Int.reduceLE, Int.reduceLT, Int.reduceNeg, Int.reduceToNat, Int.reduceAdd, Int.reduceSub, Int.reduceMul, Int.reduceBEq, Int.reduceBNe, Int.reduceEq]))
    exact ⟨rfl, rfl⟩

/-- The class of the first span, from k on, that has the block. -/
def classFrom (l : List Span) (i : Int) : Int := match l.find? (fun s => decide (s.1 ≤ i) && decide (i < s.2.1)) with | some s => s.2.2 | none => 0

theorem class1 (s : Span) (i : Int) (σ : AState) : ACalls Try.prog G0 23 [.agg (encSpan s), .pm σ.length 0] (σ ++ [.cells [.i .i64 i]]) (retIs (.b (decide (s.1 ≤ i) && decide (i < s.2.1))) (σ ++ [.cells [.i .i64 i]])) := by
  refine ACalls.bodyZ G0_pl Try.func23 rfl (by rfl) (by decide) ?_; simp only [Try.ntmps23, List.replicate, go_sem, Nat.reduceAdd, Nat.reduceSub]
  repeat' (first
    | ((first | ((with_reducible refine awOps_move ?_ ?_); decide +kernel) | ((with_reducible refine awOps_load ?_ ?_); decide +kernel) | ((with_reducible refine awOps_one ?_ ?_); decide +kernel) | (with_reducible refine awOps_feed ?_) | ((with_reducible refine awOps_g ?_); refine awOps_guard rfl ?_) | ((with_reducible refine awT_one ?_ ?_); decide +kernel) | ((with_reducible refine awT_call ?_ ?_); decide +kernel) | ((with_reducible refine awT_g ?_); refine awT_guard rfl ?_) | ((with_reducible refine awU_one ?_ ?_); decide +kernel) | ((with_reducible refine awU_call ?_ ?_); decide +kernel) | ((with_reducible refine awU_g ?_); refine awU_guard rfl ?_) | (with_reducible refine AWp.condH ?_)); intro K Q' hK hQ; simp only [encSpan, go_sem, Nat.reduceAdd, Nat.reduceSub, Nat.reduceMul, Nat.reduceDiv, Nat.reduceMod, Nat.reduceLT, Nat.reduceLeDiff, Nat.reduceEqDiff, Nat.reduceBEq, Nat.reduceBNe, reduceCtorEq, Int.reduceLE, Int.reduceLT, Int.reduceNeg, Int.reduceToNat, Int.reduceAdd, Int.reduceSub, Int.reduceMul, Int.reduceBEq, Int.reduceBNe, Int.reduceEq]; subst hK hQ)
    | ((with_reducible refine AWp.drawT Try.follows ?_ ?_); decide +kernel) | ((with_reducible refine AWp.drawU Try.follows ?_ ?_); decide +kernel)
    | with_reducible (first | refine awOps_end ?_ | refine awT_end ?_ | refine awU_end ?_ | refine nThen ?_ | refine putKn ?_ | refine nSuf ?_ | refine rThen ?_ | refine eThen ?_ | refine nBlock ?_ | refine eBlock ?_ | refine fBlock (by decide) ?_ | refine rBlock ?_ | refine nScope ?_ | refine eScope ?_ | refine rScope ?_ | refine AWp.seq ?_ | refine AWp.block ?_ | refine AWp.scope ?_ | refine AWp.text ?_ | refine AWp.skip ?_ | refine AWp.exit ?_ | refine AWp.ret ?_ | refine AWp.label ?_ | refine brK_T (by assumption) ?_ | refine brK_F (by assumption) ?_ | refine brK_mk (fun hb => ?_) (fun hb => ?_) | refine And.intro (by first | assumption | omega | simp only [go_sem, reduceCtorEq]) ?_)
    | ((with_reducible (first | refine rBodyZ ?_ | refine nBodyZ ?_ | refine rBodyQ ?_ | refine nBodyQ ?_)); simp only [encSpan, go_sem, Nat.reduceAdd, Nat.reduceSub, Nat.reduceMul, Nat.reduceDiv, Nat.reduceMod, Nat.reduceLT, Nat.reduceLeDiff, Nat.reduceEqDiff, Nat.reduceBEq, Nat.reduceBNe, reduceCtorEq, Int.reduceLE, Int.reduceLT, Int.reduceNeg, Int.reduceToNat, Int.reduceAdd, Int.reduceSub, Int.reduceMul, Int.reduceBEq, Int.reduceBNe, Int.reduceEq]))
  all_goals
    refine ⟨?_, rfl⟩
    simp at hb
    simp
    try omega

theorem indexFunc (l : List Span) (f : FuncId) (cap : List AV) (p : Span → Bool) (hl : l.length ≤ 281474976710656) (σ : AState) (hp : ∀ s ∈ l, ACalls Try.prog G0 f ([.agg (encSpan s)] ++ cap.map AV.pl) σ (retIs (.b (p s)) σ)) :
    ACalls Try.prog G0 22 [.sl .no l.length (encSpans l), .fn f cap] σ (retIs (.i .i64 (match l.findIdx? p with | some k => (k : Int) | none => -1)) σ) := by
  refine ACalls.bodyZ G0_pl Try.func22 rfl (by rfl) (by decide) ?_; simp only [Try.ntmps22, List.replicate, go_sem, Nat.reduceAdd, Nat.reduceSub]
  repeat' (first
    | ((first | ((with_reducible refine awOps_move ?_ ?_); decide +kernel) | ((with_reducible refine awOps_load ?_ ?_); decide +kernel) | ((with_reducible refine awOps_one ?_ ?_); decide +kernel) | (with_reducible refine awOps_feed ?_) | ((with_reducible refine awOps_g ?_); refine awOps_guard rfl ?_) | ((with_reducible refine awT_one ?_ ?_); decide +kernel) | ((with_reducible refine awT_call ?_ ?_); decide +kernel) | ((with_reducible refine awT_g ?_); refine awT_guard rfl ?_) | ((with_reducible refine awU_one ?_ ?_); decide +kernel) | ((with_reducible refine awU_call ?_ ?_); decide +kernel) | ((with_reducible refine awU_g ?_); refine awU_guard rfl ?_) | (with_reducible refine AWp.condH ?_)); intro K Q' hK hQ; simp only [go_sem, Nat.reduceAdd, Nat.reduceSub, Nat.reduceMul, Nat.reduceDiv, Nat.reduceMod, Nat.reduceLT, Nat.reduceLeDiff, Nat.reduceEqDiff, Nat.reduceBEq, Nat.reduceBNe, reduceCtorEq, Int.reduceLE, Int.reduceLT, Int.reduceNeg, Int.reduceToNat, Int.reduceAdd, Int.reduceSub, Int.reduceMul, Int.reduceBEq, Int.reduceBNe, Int.reduceEq]; subst hK hQ)
    | ((with_reducible refine AWp.drawT Try.follows ?_ ?_); decide +kernel) | ((with_reducible refine AWp.drawU Try.follows ?_ ?_); decide +kernel)
    | with_reducible (first | refine awOps_end ?_ | refine awT_end ?_ | refine awU_end ?_ | refine nThen ?_ | refine putKn ?_ | refine nSuf ?_ | refine rThen ?_ | refine eThen ?_ | refine nBlock ?_ | refine eBlock ?_ | refine fBlock (by decide) ?_ | refine rBlock ?_ | refine nScope ?_ | refine eScope ?_ | refine rScope ?_ | refine AWp.seq ?_ | refine AWp.block ?_ | refine AWp.scope ?_ | refine AWp.text ?_ | refine AWp.skip ?_ | refine AWp.exit ?_ | refine AWp.ret ?_ | refine AWp.label ?_ | refine brK_T (by assumption) ?_ | refine brK_F (by assumption) ?_ | refine brK_mk (fun hb => ?_) (fun hb => ?_) | refine And.intro (by first | assumption | omega | simp only [go_sem, reduceCtorEq]) ?_)
    | ((with_reducible (first | refine rBodyZ ?_ | refine nBodyZ ?_ | refine rBodyQ ?_ | refine nBodyQ ?_)); simp only [go_sem, Nat.reduceAdd, Nat.reduceSub, Nat.reduceMul, Nat.reduceDiv, Nat.reduceMod, Nat.reduceLT, Nat.reduceLeDiff, Nat.reduceEqDiff, Nat.reduceBEq, Nat.reduceBNe, reduceCtorEq, Int.reduceLE, Int.reduceLT, Int.reduceNeg, Int.reduceToNat, Int.reduceAdd, Int.reduceSub, Int.reduceMul, Int.reduceBEq, Int.reduceBNe, Int.reduceEq]))
  refine AWp.loop (α := Nat) (fun k => k ≤ l.length ∧ ∀ j, j < k → ∀ h : j < l.length, p l[j] = false) (fun k => l.length - k) (fun k => mkE 19 [(0, .sl .no l.length (encSpans l)), (1, .fn f cap), (7, .i .i64 l.length), (8, .i .i64 k)]) (fun _ => σ) 0 ⟨Nat.zero_le _, fun j h => by omega⟩ ?_ ?_ ?_
  · simp only [Int.natCast_zero, go_sem, Nat.reduceAdd, Nat.reduceSub, Nat.reduceMul, Nat.reduceDiv, Nat.reduceMod, Nat.reduceLT, Nat.reduceLeDiff, Nat.reduceEqDiff, Nat.reduceBEq, Nat.reduceBNe, reduceCtorEq, Int.reduceLE, Int.reduceLT, Int.reduceNeg, Int.reduceToNat, Int.reduceAdd, Int.reduceSub, Int.reduceMul, Int.reduceBEq, Int.reduceBNe, Int.reduceEq]
  · exact WeakS.refl _
  rintro k ⟨hk, hall⟩
  simp only [go_sem, Nat.reduceAdd, Nat.reduceSub, Nat.reduceMul, Nat.reduceDiv, Nat.reduceMod, Nat.reduceLT, Nat.reduceLeDiff, Nat.reduceEqDiff, Nat.reduceBEq, Nat.reduceBNe, reduceCtorEq, Int.reduceLE, Int.reduceLT, Int.reduceNeg, Int.reduceToNat, Int.reduceAdd, Int.reduceSub, Int.reduceMul, Int.reduceBEq, Int.reduceBNe, Int.reduceEq]
  by_cases hlt : k < l.length
  · have hd : decide ((k : Int) < (l.length : Int)) = true := by simp; omega
    have hw := wrapS (k := k) (by omega)
    obtain ⟨h1, h2, h3⟩ := encSpans_get l k l[k] (List.getElem?_eq_getElem hlt)
    have hr : (0 : Int) ≤ (k : Int) ∧ (k : Int) < (l.length : Int) := by omega
    repeat' (first
    | ((first | ((with_reducible refine awOps_move ?_ ?_); decide +kernel) | ((with_reducible refine awOps_load ?_ ?_); decide +kernel) | ((with_reducible refine awOps_one ?_ ?_); decide +kernel) | (with_reducible refine awOps_feed ?_) | ((with_reducible refine awOps_g ?_); refine awOps_guard rfl ?_) | ((with_reducible refine awT_one ?_ ?_); decide +kernel) | ((with_reducible refine awT_call ?_ ?_); decide +kernel) | ((with_reducible refine awT_g ?_); refine awT_guard rfl ?_) | ((with_reducible refine awU_one ?_ ?_); decide +kernel) | ((with_reducible refine awU_call ?_ ?_); decide +kernel) | ((with_reducible refine awU_g ?_); refine awU_guard rfl ?_) | (with_reducible refine AWp.condH ?_)); intro K Q' hK hQ; simp only [hd, hw, hr, h1, h2, h3, go_sem, Nat.reduceAdd, Nat.reduceSub, Nat.reduceMul, Nat.reduceDiv, Nat.reduceMod, Nat.reduceLT, Nat.reduceLeDiff, Nat.reduceEqDiff, Nat.reduceBEq, Nat.reduceBNe, reduceCtorEq, Int.reduceLE, Int.reduceLT, Int.reduceNeg, Int.reduceToNat, Int.reduceAdd, Int.reduceSub, Int.reduceMul, Int.reduceBEq, Int.reduceBNe, Int.reduceEq]; subst hK hQ)
    | ((with_reducible refine AWp.drawT Try.follows ?_ ?_); decide +kernel) | ((with_reducible refine AWp.drawU Try.follows ?_ ?_); decide +kernel)
    | with_reducible (first | refine awOps_end ?_ | refine awT_end ?_ | refine awU_end ?_ | refine nThen ?_ | refine putKn ?_ | refine nSuf ?_ | refine rThen ?_ | refine eThen ?_ | refine nBlock ?_ | refine eBlock ?_ | refine fBlock (by decide) ?_ | refine rBlock ?_ | refine nScope ?_ | refine eScope ?_ | refine rScope ?_ | refine AWp.seq ?_ | refine AWp.block ?_ | refine AWp.scope ?_ | refine AWp.text ?_ | refine AWp.skip ?_ | refine AWp.exit ?_ | refine AWp.ret ?_ | refine AWp.label ?_ | refine brK_T (by assumption) ?_ | refine brK_F (by assumption) ?_ | refine brK_mk (fun hb => ?_) (fun hb => ?_) | refine And.intro (by first | assumption | omega | simp only [go_sem, reduceCtorEq]) ?_)
    | ((with_reducible (first | refine rBodyZ ?_ | refine nBodyZ ?_ | refine rBodyQ ?_ | refine nBodyQ ?_)); simp only [hd, hw, hr, h1, h2, h3, go_sem, Nat.reduceAdd, Nat.reduceSub, Nat.reduceMul, Nat.reduceDiv, Nat.reduceMod, Nat.reduceLT, Nat.reduceLeDiff, Nat.reduceEqDiff, Nat.reduceBEq, Nat.reduceBNe, reduceCtorEq, Int.reduceLE, Int.reduceLT, Int.reduceNeg, Int.reduceToNat, Int.reduceAdd, Int.reduceSub, Int.reduceMul, Int.reduceBEq, Int.reduceBNe, Int.reduceEq]))
    refine ACalls.use (hp l[k] (List.getElem_mem _)) ?_
    repeat' (first
    | ((first | ((with_reducible refine awOps_move ?_ ?_); decide +kernel) | ((with_reducible refine awOps_load ?_ ?_); decide +kernel) | ((with_reducible refine awOps_one ?_ ?_); decide +kernel) | (with_reducible refine awOps_feed ?_) | ((with_reducible refine awOps_g ?_); refine awOps_guard rfl ?_) | ((with_reducible refine awT_one ?_ ?_); decide +kernel) | ((with_reducible refine awT_call ?_ ?_); decide +kernel) | ((with_reducible refine awT_g ?_); refine awT_guard rfl ?_) | ((with_reducible refine awU_one ?_ ?_); decide +kernel) | ((with_reducible refine awU_call ?_ ?_); decide +kernel) | ((with_reducible refine awU_g ?_); refine awU_guard rfl ?_) | (with_reducible refine AWp.condH ?_)); intro K Q' hK hQ; simp only [go_sem, Nat.reduceAdd, Nat.reduceSub, Nat.reduceMul, Nat.reduceDiv, Nat.reduceMod, Nat.reduceLT, Nat.reduceLeDiff, Nat.reduceEqDiff, Nat.reduceBEq, Nat.reduceBNe, reduceCtorEq, Int.reduceLE, Int.reduceLT, Int.reduceNeg, Int.reduceToNat, Int.reduceAdd, Int.reduceSub, Int.reduceMul, Int.reduceBEq, Int.reduceBNe, Int.reduceEq]; subst hK hQ)
    | ((with_reducible refine AWp.drawT Try.follows ?_ ?_); decide +kernel) | ((with_reducible refine AWp.drawU Try.follows ?_ ?_); decide +kernel)
    | with_reducible (first | refine awOps_end ?_ | refine awT_end ?_ | refine awU_end ?_ | refine nThen ?_ | refine putKn ?_ | refine nSuf ?_ | refine rThen ?_ | refine eThen ?_ | refine nBlock ?_ | refine eBlock ?_ | refine fBlock (by decide) ?_ | refine rBlock ?_ | refine nScope ?_ | refine eScope ?_ | refine rScope ?_ | refine AWp.seq ?_ | refine AWp.block ?_ | refine AWp.scope ?_ | refine AWp.text ?_ | refine AWp.skip ?_ | refine AWp.exit ?_ | refine AWp.ret ?_ | refine AWp.label ?_ | refine brK_T (by assumption) ?_ | refine brK_F (by assumption) ?_ | refine brK_mk (fun hb => ?_) (fun hb => ?_) | refine And.intro (by first | assumption | omega | simp only [go_sem, reduceCtorEq]) ?_)
    | ((with_reducible (first | refine rBodyZ ?_ | refine nBodyZ ?_ | refine rBodyQ ?_ | refine nBodyQ ?_)); simp only [go_sem, Nat.reduceAdd, Nat.reduceSub, Nat.reduceMul, Nat.reduceDiv, Nat.reduceMod, Nat.reduceLT, Nat.reduceLeDiff, Nat.reduceEqDiff, Nat.reduceBEq, Nat.reduceBNe, reduceCtorEq, Int.reduceLE, Int.reduceLT, Int.reduceNeg, Int.reduceToNat, Int.reduceAdd, Int.reduceSub, Int.reduceMul, Int.reduceBEq, Int.reduceBNe, Int.reduceEq]))
    · have : l.findIdx? p = some k := List.findIdx?_eq_some_iff_getElem.2 ⟨hlt, hb, fun j hj => by simp [hall j hj (by omega)]⟩
      exact ⟨by rw [this], rfl⟩
    · refine ⟨k + 1, ⟨by omega, fun j hj h => ?_⟩, by simp only; omega, by simp only [hw, go_sem, Nat.reduceAdd, Nat.reduceSub, Nat.reduceMul, Nat.reduceDiv, Nat.reduceMod, Nat.reduceLT, Nat.reduceLeDiff, Nat.reduceEqDiff, Nat.reduceBEq, Nat.reduceBNe, reduceCtorEq, Int.reduceLE, Int.reduceLT, Int.reduceNeg, Int.reduceToNat, Int.reduceAdd, Int.reduceSub, Int.reduceMul, Int.reduceBEq, Int.reduceBNe, Int.reduceEq], WeakS.refl _⟩
      rcases Nat.lt_or_ge j k with h1 | h1
      · exact hall j h1 h
      · have : j = k := by omega
        subst this
        exact hb
  · have hd : decide ((k : Int) < (l.length : Int)) = false := by simp; omega
    repeat' (first
    | ((first | ((with_reducible refine awOps_move ?_ ?_); decide +kernel) | ((with_reducible refine awOps_load ?_ ?_); decide +kernel) | ((with_reducible refine awOps_one ?_ ?_); decide +kernel) | (with_reducible refine awOps_feed ?_) | ((with_reducible refine awOps_g ?_); refine awOps_guard rfl ?_) | ((with_reducible refine awT_one ?_ ?_); decide +kernel) | ((with_reducible refine awT_call ?_ ?_); decide +kernel) | ((with_reducible refine awT_g ?_); refine awT_guard rfl ?_) | ((with_reducible refine awU_one ?_ ?_); decide +kernel) | ((with_reducible refine awU_call ?_ ?_); decide +kernel) | ((with_reducible refine awU_g ?_); refine awU_guard rfl ?_) | (with_reducible refine AWp.condH ?_)); intro K Q' hK hQ; simp only [hd, go_sem, Nat.reduceAdd, Nat.reduceSub, Nat.reduceMul, Nat.reduceDiv, Nat.reduceMod, Nat.reduceLT, Nat.reduceLeDiff, Nat.reduceEqDiff, Nat.reduceBEq, Nat.reduceBNe, reduceCtorEq, Int.reduceLE, Int.reduceLT, Int.reduceNeg, Int.reduceToNat, Int.reduceAdd, Int.reduceSub, Int.reduceMul, Int.reduceBEq, Int.reduceBNe, Int.reduceEq]; subst hK hQ)
    | ((with_reducible refine AWp.drawT Try.follows ?_ ?_); decide +kernel) | ((with_reducible refine AWp.drawU Try.follows ?_ ?_); decide +kernel)
    | with_reducible (first | refine awOps_end ?_ | refine awT_end ?_ | refine awU_end ?_ | refine nThen ?_ | refine putKn ?_ | refine nSuf ?_ | refine rThen ?_ | refine eThen ?_ | refine nBlock ?_ | refine eBlock ?_ | refine fBlock (by decide) ?_ | refine rBlock ?_ | refine nScope ?_ | refine eScope ?_ | refine rScope ?_ | refine AWp.seq ?_ | refine AWp.block ?_ | refine AWp.scope ?_ | refine AWp.text ?_ | refine AWp.skip ?_ | refine AWp.exit ?_ | refine AWp.ret ?_ | refine AWp.label ?_ | refine brK_T (by assumption) ?_ | refine brK_F (by assumption) ?_ | refine brK_mk (fun hb => ?_) (fun hb => ?_) | refine And.intro (by first | assumption | omega | simp only [go_sem, reduceCtorEq]) ?_)
    | ((with_reducible (first | refine rBodyZ ?_ | refine nBodyZ ?_ | refine rBodyQ ?_ | refine nBodyQ ?_)); simp only [hd, go_sem, Nat.reduceAdd, Nat.reduceSub, Nat.reduceMul, Nat.reduceDiv, Nat.reduceMod, Nat.reduceLT, Nat.reduceLeDiff, Nat.reduceEqDiff, Nat.reduceBEq, Nat.reduceBNe, reduceCtorEq, Int.reduceLE, Int.reduceLT, Int.reduceNeg, Int.reduceToNat, Int.reduceAdd, Int.reduceSub, Int.reduceMul, Int.reduceBEq, Int.reduceBNe, Int.reduceEq]))
    have : l.findIdx? p = none := List.findIdx?_eq_none_iff.2 fun s hs => by
      obtain ⟨j, hj, rfl⟩ := List.mem_iff_getElem.1 hs
      simp [hall j (by omega) hj]
    exact ⟨by rw [this], rfl⟩

theorem classOf (l : List Span) (i : Int) (σ : AState) (hl : l.length ≤ 281474976710656) : ACalls Try.prog G0 14 [.sl .no l.length (encSpans l), .i .i64 i] σ (retIs (.i .i64 (classFrom l i)) σ) := by
  refine ACalls.bodyZ G0_pl Try.func14 rfl (by rfl) (by decide) ?_; simp only [Try.ntmps14, List.replicate, go_sem, Nat.reduceAdd, Nat.reduceSub]
  repeat' (first
    | ((first | ((with_reducible refine awOps_move ?_ ?_); decide +kernel) | ((with_reducible refine awOps_load ?_ ?_); decide +kernel) | ((with_reducible refine awOps_one ?_ ?_); decide +kernel) | (with_reducible refine awOps_feed ?_) | ((with_reducible refine awOps_g ?_); refine awOps_guard rfl ?_) | ((with_reducible refine awT_one ?_ ?_); decide +kernel) | ((with_reducible refine awT_call ?_ ?_); decide +kernel) | ((with_reducible refine awT_g ?_); refine awT_guard rfl ?_) | ((with_reducible refine awU_one ?_ ?_); decide +kernel) | ((with_reducible refine awU_call ?_ ?_); decide +kernel) | ((with_reducible refine awU_g ?_); refine awU_guard rfl ?_) | (with_reducible refine AWp.condH ?_)); intro K Q' hK hQ; simp only [go_sem, Nat.reduceAdd, Nat.reduceSub, Nat.reduceMul, Nat.reduceDiv, Nat.reduceMod, Nat.reduceLT, Nat.reduceLeDiff, Nat.reduceEqDiff, Nat.reduceBEq, Nat.reduceBNe, reduceCtorEq, Int.reduceLE, Int.reduceLT, Int.reduceNeg, Int.reduceToNat, Int.reduceAdd, Int.reduceSub, Int.reduceMul, Int.reduceBEq, Int.reduceBNe, Int.reduceEq]; subst hK hQ)
    | ((with_reducible refine AWp.drawT Try.follows ?_ ?_); decide +kernel) | ((with_reducible refine AWp.drawU Try.follows ?_ ?_); decide +kernel)
    | with_reducible (first | refine awOps_end ?_ | refine awT_end ?_ | refine awU_end ?_ | refine nThen ?_ | refine putKn ?_ | refine nSuf ?_ | refine rThen ?_ | refine eThen ?_ | refine nBlock ?_ | refine eBlock ?_ | refine fBlock (by decide) ?_ | refine rBlock ?_ | refine nScope ?_ | refine eScope ?_ | refine rScope ?_ | refine AWp.seq ?_ | refine AWp.block ?_ | refine AWp.scope ?_ | refine AWp.text ?_ | refine AWp.skip ?_ | refine AWp.exit ?_ | refine AWp.ret ?_ | refine AWp.label ?_ | refine brK_T (by assumption) ?_ | refine brK_F (by assumption) ?_ | refine brK_mk (fun hb => ?_) (fun hb => ?_) | refine And.intro (by first | assumption | omega | simp only [go_sem, reduceCtorEq]) ?_)
    | ((with_reducible (first | refine rBodyZ ?_ | refine nBodyZ ?_ | refine rBodyQ ?_ | refine nBodyQ ?_)); simp only [go_sem, Nat.reduceAdd, Nat.reduceSub, Nat.reduceMul, Nat.reduceDiv, Nat.reduceMod, Nat.reduceLT, Nat.reduceLeDiff, Nat.reduceEqDiff, Nat.reduceBEq, Nat.reduceBNe, reduceCtorEq, Int.reduceLE, Int.reduceLT, Int.reduceNeg, Int.reduceToNat, Int.reduceAdd, Int.reduceSub, Int.reduceMul, Int.reduceBEq, Int.reduceBNe, Int.reduceEq]))
  refine ACalls.use (indexFunc l 23 [.pm σ.length 0] (fun s => decide (s.1 ≤ i) && decide (i < s.2.1)) hl _ fun s _ => class1 s i σ) ?_
  cases hf : l.findIdx? (fun s => decide (s.1 ≤ i) && decide (i < s.2.1)) with
  | none =>
    simp only
    repeat' (first
    | ((first | ((with_reducible refine awOps_move ?_ ?_); decide +kernel) | ((with_reducible refine awOps_load ?_ ?_); decide +kernel) | ((with_reducible refine awOps_one ?_ ?_); decide +kernel) | (with_reducible refine awOps_feed ?_) | ((with_reducible refine awOps_g ?_); refine awOps_guard rfl ?_) | ((with_reducible refine awT_one ?_ ?_); decide +kernel) | ((with_reducible refine awT_call ?_ ?_); decide +kernel) | ((with_reducible refine awT_g ?_); refine awT_guard rfl ?_) | ((with_reducible refine awU_one ?_ ?_); decide +kernel) | ((with_reducible refine awU_call ?_ ?_); decide +kernel) | ((with_reducible refine awU_g ?_); refine awU_guard rfl ?_) | (with_reducible refine AWp.condH ?_)); intro K Q' hK hQ; simp only [go_sem, Nat.reduceAdd, Nat.reduceSub, Nat.reduceMul, Nat.reduceDiv, Nat.reduceMod, Nat.reduceLT, Nat.reduceLeDiff, Nat.reduceEqDiff, Nat.reduceBEq, Nat.reduceBNe, reduceCtorEq, Int.reduceLE, Int.reduceLT, Int.reduceNeg, Int.reduceToNat, Int.reduceAdd, Int.reduceSub, Int.reduceMul, Int.reduceBEq, Int.reduceBNe, Int.reduceEq]; subst hK hQ)
    | ((with_reducible refine AWp.drawT Try.follows ?_ ?_); decide +kernel) | ((with_reducible refine AWp.drawU Try.follows ?_ ?_); decide +kernel)
    | with_reducible (first | refine awOps_end ?_ | refine awT_end ?_ | refine awU_end ?_ | refine nThen ?_ | refine putKn ?_ | refine nSuf ?_ | refine rThen ?_ | refine eThen ?_ | refine nBlock ?_ | refine eBlock ?_ | refine fBlock (by decide) ?_ | refine rBlock ?_ | refine nScope ?_ | refine eScope ?_ | refine rScope ?_ | refine AWp.seq ?_ | refine AWp.block ?_ | refine AWp.scope ?_ | refine AWp.text ?_ | refine AWp.skip ?_ | refine AWp.exit ?_ | refine AWp.ret ?_ | refine AWp.label ?_ | refine brK_T (by assumption) ?_ | refine brK_F (by assumption) ?_ | refine brK_mk (fun hb => ?_) (fun hb => ?_) | refine And.intro (by first | assumption | omega | simp only [go_sem, reduceCtorEq]) ?_)
    | ((with_reducible (first | refine rBodyZ ?_ | refine nBodyZ ?_ | refine rBodyQ ?_ | refine nBodyQ ?_)); simp only [go_sem, Nat.reduceAdd, Nat.reduceSub, Nat.reduceMul, Nat.reduceDiv, Nat.reduceMod, Nat.reduceLT, Nat.reduceLeDiff, Nat.reduceEqDiff, Nat.reduceBEq, Nat.reduceBNe, reduceCtorEq, Int.reduceLE, Int.reduceLT, Int.reduceNeg, Int.reduceToNat, Int.reduceAdd, Int.reduceSub, Int.reduceMul, Int.reduceBEq, Int.reduceBNe, Int.reduceEq]))
    · refine ⟨?_, rfl⟩
      have : l.find? (fun s => decide (s.1 ≤ i) && decide (i < s.2.1)) = none := by rw [List.find?_eq_none]; intro s hs; have := List.findIdx?_eq_none_iff.1 hf s hs; simp_all
      simp only [classFrom, this]
  | some k =>
    obtain ⟨hlt, hp, hmin⟩ := List.findIdx?_eq_some_iff_getElem.1 hf
    have hd : decide ((k : Int) < 0) = false := by simp
    obtain ⟨h1, h2, h3⟩ := encSpans_get l k l[k] (List.getElem?_eq_getElem hlt)
    have hr : (0 : Int) ≤ (k : Int) ∧ (k : Int) < (l.length : Int) := by omega
    simp only
    repeat' (first
    | ((first | ((with_reducible refine awOps_move ?_ ?_); decide +kernel) | ((with_reducible refine awOps_load ?_ ?_); decide +kernel) | ((with_reducible refine awOps_one ?_ ?_); decide +kernel) | (with_reducible refine awOps_feed ?_) | ((with_reducible refine awOps_g ?_); refine awOps_guard rfl ?_) | ((with_reducible refine awT_one ?_ ?_); decide +kernel) | ((with_reducible refine awT_call ?_ ?_); decide +kernel) | ((with_reducible refine awT_g ?_); refine awT_guard rfl ?_) | ((with_reducible refine awU_one ?_ ?_); decide +kernel) | ((with_reducible refine awU_call ?_ ?_); decide +kernel) | ((with_reducible refine awU_g ?_); refine awU_guard rfl ?_) | (with_reducible refine AWp.condH ?_)); intro K Q' hK hQ; simp only [hd, hr, h1, h2, h3, go_sem, Nat.reduceAdd, Nat.reduceSub, Nat.reduceMul, Nat.reduceDiv, Nat.reduceMod, Nat.reduceLT, Nat.reduceLeDiff, Nat.reduceEqDiff, Nat.reduceBEq, Nat.reduceBNe, reduceCtorEq, Int.reduceLE, Int.reduceLT, Int.reduceNeg, Int.reduceToNat, Int.reduceAdd, Int.reduceSub, Int.reduceMul, Int.reduceBEq, Int.reduceBNe, Int.reduceEq]; subst hK hQ)
    | ((with_reducible refine AWp.drawT Try.follows ?_ ?_); decide +kernel) | ((with_reducible refine AWp.drawU Try.follows ?_ ?_); decide +kernel)
    | with_reducible (first | refine awOps_end ?_ | refine awT_end ?_ | refine awU_end ?_ | refine nThen ?_ | refine putKn ?_ | refine nSuf ?_ | refine rThen ?_ | refine eThen ?_ | refine nBlock ?_ | refine eBlock ?_ | refine fBlock (by decide) ?_ | refine rBlock ?_ | refine nScope ?_ | refine eScope ?_ | refine rScope ?_ | refine AWp.seq ?_ | refine AWp.block ?_ | refine AWp.scope ?_ | refine AWp.text ?_ | refine AWp.skip ?_ | refine AWp.exit ?_ | refine AWp.ret ?_ | refine AWp.label ?_ | refine brK_T (by assumption) ?_ | refine brK_F (by assumption) ?_ | refine brK_mk (fun hb => ?_) (fun hb => ?_) | refine And.intro (by first | assumption | omega | simp only [go_sem, reduceCtorEq]) ?_)
    | ((with_reducible (first | refine rBodyZ ?_ | refine nBodyZ ?_ | refine rBodyQ ?_ | refine nBodyQ ?_)); simp only [hd, hr, h1, h2, h3, go_sem, Nat.reduceAdd, Nat.reduceSub, Nat.reduceMul, Nat.reduceDiv, Nat.reduceMod, Nat.reduceLT, Nat.reduceLeDiff, Nat.reduceEqDiff, Nat.reduceBEq, Nat.reduceBNe, reduceCtorEq, Int.reduceLE, Int.reduceLT, Int.reduceNeg, Int.reduceToNat, Int.reduceAdd, Int.reduceSub, Int.reduceMul, Int.reduceBEq, Int.reduceBNe, Int.reduceEq]))
    refine ⟨?_, rfl⟩
    have : l.find? (fun s => decide (s.1 ≤ i) && decide (i < s.2.1)) = some l[k] := List.find?_eq_some_iff_getElem.2 ⟨hp, k, hlt, rfl, fun j hj => by rw [Bool.not_eq_true']; exact Bool.eq_false_iff.2 (hmin j hj)⟩
    simp only [classFrom, this]
end Go.Proofs.Ytoofpdmdgofdcaa.L

namespace Go.Proofs.Ytoofpdmdgofdcaa.L
open Go Go.RowKit Go.Proofs.Ytoofpdmdgofdcaa.E
set_option linter.unusedVariables false
set_option linter.unusedSimpArgs false
def outV (σ js : AState) (cap : Nat) (L : List Span) : AV := match L with | [] => .sl .nil 0 [] | _ :: _ => .sm (σ.length + js.length) 0 L.length cap 3
def outS (σ js : AState) (junk : List AV) (L : List Span) : AState := match L with | [] => σ ++ js | _ :: _ => σ ++ (js ++ [.cells (encSpans L ++ junk)])
theorem outV_ne {σ js : AState} {cap : Nat} {L : List Span} (h : L ≠ []) : outV σ js cap L = .sm (σ.length + js.length) 0 L.length cap 3 := by cases L with | nil => exact absurd rfl h | cons => rfl
theorem outS_ne {σ js : AState} {junk : List AV} {L : List Span} (h : L ≠ []) : outS σ js junk L = σ ++ (js ++ [.cells (encSpans L ++ junk)]) := by cases L with | nil => exact absurd rfl h | cons => rfl

structure GhS where
  k : Nat
  js : AState
  cap : Nat
  junk : List AV

theorem set_last (L : List Span) (s : Span) (junk : List AV) (v : Int) : (encSpans L ++ (.i .i64 s.1 :: .i .i64 s.2.1 :: .i .i64 s.2.2 :: junk)).set (L.length * 3 + 1) (.i .i64 v) = encSpans L ++ (.i .i64 s.1 :: .i .i64 v :: .i .i64 s.2.2 :: junk) := by
  rw [List.set_append_right _ _ (by rw [encSpans_len]; omega)]
  rw [encSpans_len, show L.length * 3 + 1 - 3 * L.length = 1 by omega]
  rfl
theorem encSpans_snoc (L : List Span) (s : Span) (junk : List AV) : encSpans (L ++ [s]) ++ junk = encSpans L ++ (.i .i64 s.1 :: .i .i64 s.2.1 :: .i .i64 s.2.2 :: junk) := by
  simp [encSpans, encSpan]
theorem pl_spans (L : List Span) : (encSpans L).map AV.pl = encSpans L := by
  induction L with
  | nil => rfl
  | cons a r ih => simpa [encSpans, encSpan, AV.pl] using ih

set_option maxRecDepth 10000
set_option maxHeartbeats 1000000
theorem refSpans (l : List Int) (σ : AState) (hl : l.length ≤ 1099511627776) : ACalls Try.prog G0 11 [.sl .no l.length (encInts l)] σ (retIs (.sl .no (spansFrom l 0).length (encSpans (spansFrom l 0))) σ) := by
  rw [← refL_all]
  refine ACalls.bodyZ G0_pl Try.func11 rfl (by rfl) (by decide) ?_; simp only [Try.ntmps11, List.replicate, go_sem, Nat.reduceAdd, Nat.reduceSub]
  repeat' (first
    | ((first | ((with_reducible refine awOps_move ?_ ?_); decide +kernel) | ((with_reducible refine awOps_load ?_ ?_); decide +kernel) | ((with_reducible refine awOps_one ?_ ?_); decide +kernel) | (with_reducible refine awOps_feed ?_) | ((with_reducible refine awOps_g ?_); refine awOps_guard rfl ?_) | ((with_reducible refine awT_one ?_ ?_); decide +kernel) | ((with_reducible refine awT_call ?_ ?_); decide +kernel) | ((with_reducible refine awT_g ?_); refine awT_guard rfl ?_) | ((with_reducible refine awU_one ?_ ?_); decide +kernel) | ((with_reducible refine awU_call ?_ ?_); decide +kernel) | ((with_reducible refine awU_g ?_); refine awU_guard rfl ?_) | (with_reducible refine AWp.condH ?_)); intro K Q' hK hQ; simp only [go_sem, Nat.reduceAdd, Nat.reduceSub, Nat.reduceMul, Nat.reduceDiv, Nat.reduceMod, Nat.reduceLT, Nat.reduceLeDiff, Nat.reduceEqDiff, Nat.reduceBEq, Nat.reduceBNe, reduceCtorEq, Int.reduceLE, Int.reduceLT, Int.reduceNeg, Int.reduceToNat, Int.reduceAdd, Int.reduceSub, Int.reduceMul, Int.reduceBEq, Int.reduceBNe, Int.reduceEq]; subst hK hQ)
    | ((with_reducible refine AWp.drawT Try.follows ?_ ?_); decide +kernel) | ((with_reducible refine AWp.drawU Try.follows ?_ ?_); decide +kernel)
    | with_reducible (first | refine awOps_end ?_ | refine awT_end ?_ | refine awU_end ?_ | refine nThen ?_ | refine putKn ?_ | refine nSuf ?_ | refine rThen ?_ | refine eThen ?_ | refine nBlock ?_ | refine eBlock ?_ | refine fBlock (by decide) ?_ | refine rBlock ?_ | refine nScope ?_ | refine eScope ?_ | refine rScope ?_ | refine AWp.seq ?_ | refine AWp.block ?_ | refine AWp.scope ?_ | refine AWp.text ?_ | refine AWp.skip ?_ | refine AWp.exit ?_ | refine AWp.ret ?_ | refine AWp.label ?_ | refine brK_T (by assumption) ?_ | refine brK_F (by assumption) ?_ | refine brK_mk (fun hb => ?_) (fun hb => ?_) | refine And.intro (by first | assumption | omega | simp only [go_sem, reduceCtorEq]) ?_)
    | ((with_reducible (first | refine rBodyZ ?_ | refine nBodyZ ?_ | refine rBodyQ ?_ | refine nBodyQ ?_)); simp only [go_sem, Nat.reduceAdd, Nat.reduceSub, Nat.reduceMul, Nat.reduceDiv, Nat.reduceMod, Nat.reduceLT, Nat.reduceLeDiff, Nat.reduceEqDiff, Nat.reduceBEq, Nat.reduceBNe, reduceCtorEq, Int.reduceLE, Int.reduceLT, Int.reduceNeg, Int.reduceToNat, Int.reduceAdd, Int.reduceSub, Int.reduceMul, Int.reduceBEq, Int.reduceBNe, Int.reduceEq]))
  refine AWp.loop (α := GhS) (fun x => x.k ≤ l.length ∧ (refL l x.k).length ≤ x.k ∧ (0 < x.k → refL l x.k ≠ [] ∧ (encSpans (refL l x.k) ++ x.junk).length = x.cap * 3 ∧ (refL l x.k).length ≤ x.cap)) (fun x => l.length - x.k) (fun x => mkE 43 [(0, .sl .no l.length (encInts l)), (3, outV σ x.js x.cap (refL l x.k)), (4, .i .i64 x.k)]) (fun x => outS σ x.js x.junk (refL l x.k)) ⟨0, [], 0, []⟩ ⟨Nat.zero_le _, Nat.le_refl _, fun h => by simp at h⟩ ?_ ?_ ?_
  · simp only [refL, outV, Int.natCast_zero, go_sem, Nat.reduceAdd, Nat.reduceSub, Nat.reduceMul, Nat.reduceDiv, Nat.reduceMod, Nat.reduceLT, Nat.reduceLeDiff, Nat.reduceEqDiff, Nat.reduceBEq, Nat.reduceBNe, reduceCtorEq, Int.reduceLE, Int.reduceLT, Int.reduceNeg, Int.reduceToNat, Int.reduceAdd, Int.reduceSub, Int.reduceMul, Int.reduceBEq, Int.reduceBNe, Int.reduceEq]
  · simp only [refL, outS, List.append_nil]
    exact WeakS.refl _
  rintro ⟨k, js, cap, junk⟩ ⟨hk, hkl, hcap⟩
  simp only at hk hcap hkl
  simp only [go_sem, Nat.reduceAdd, Nat.reduceSub, Nat.reduceMul, Nat.reduceDiv, Nat.reduceMod, Nat.reduceLT, Nat.reduceLeDiff, Nat.reduceEqDiff, Nat.reduceBEq, Nat.reduceBNe, reduceCtorEq, Int.reduceLE, Int.reduceLT, Int.reduceNeg, Int.reduceToNat, Int.reduceAdd, Int.reduceSub, Int.reduceMul, Int.reduceBEq, Int.reduceBNe, Int.reduceEq]
  by_cases hlt : k < l.length
  · have hd : decide ((k : Int) < (l.length : Int)) = true := by simp; omega
    have hw := wrapS (k := k) (by omega)
    have hgk := encInts_get l k hlt
    have hgd : l.getD k 0 = l[k] := by simp [hlt]
    have hrk : (0 : Int) ≤ (k : Int) ∧ (k : Int) < (l.length : Int) := by omega
    rcases Nat.eq_zero_or_pos k with h0 | h0
    · subst h0
      simp only [refL, outV, outS, Int.natCast_zero] at *
      repeat' (first
    | ((first | ((with_reducible refine awOps_move ?_ ?_); decide +kernel) | ((with_reducible refine awOps_load ?_ ?_); decide +kernel) | ((with_reducible refine awOps_one ?_ ?_); decide +kernel) | (with_reducible refine awOps_feed ?_) | ((with_reducible refine awOps_g ?_); refine awOps_guard rfl ?_) | ((with_reducible refine awT_one ?_ ?_); decide +kernel) | ((with_reducible refine awT_call ?_ ?_); decide +kernel) | ((with_reducible refine awT_g ?_); refine awT_guard rfl ?_) | ((with_reducible refine awU_one ?_ ?_); decide +kernel) | ((with_reducible refine awU_call ?_ ?_); decide +kernel) | ((with_reducible refine awU_g ?_); refine awU_guard rfl ?_) | (with_reducible refine AWp.condH ?_)); intro K Q' hK hQ; simp only [hd, hgk, hrk, hw, go_sem, Nat.reduceAdd, Nat.reduceSub, Nat.reduceMul, Nat.reduceDiv, Nat.reduceMod, Nat.reduceLT, Nat.reduceLeDiff, Nat.reduceEqDiff, Nat.reduceBEq, Nat.reduceBNe, reduceCtorEq, Int.reduceLE, Int.reduceLT, Int.reduceNeg, Int.reduceToNat, Int.reduceAdd, Int.reduceSub, Int.reduceMul, Int.reduceBEq, Int.reduceBNe, Int.reduceEq]; subst hK hQ)
    | ((with_reducible refine AWp.drawT Try.follows ?_ ?_); decide +kernel) | ((with_reducible refine AWp.drawU Try.follows ?_ ?_); decide +kernel)
    | with_reducible (first | refine awOps_end ?_ | refine awT_end ?_ | refine awU_end ?_ | refine nThen ?_ | refine putKn ?_ | refine nSuf ?_ | refine rThen ?_ | refine eThen ?_ | refine nBlock ?_ | refine eBlock ?_ | refine fBlock (by decide) ?_ | refine rBlock ?_ | refine nScope ?_ | refine eScope ?_ | refine rScope ?_ | refine AWp.seq ?_ | refine AWp.block ?_ | refine AWp.scope ?_ | refine AWp.text ?_ | refine AWp.skip ?_ | refine AWp.exit ?_ | refine AWp.ret ?_ | refine AWp.label ?_ | refine brK_T (by assumption) ?_ | refine brK_F (by assumption) ?_ | refine brK_mk (fun hb => ?_) (fun hb => ?_) | refine And.intro (by first | assumption | omega | simp only [go_sem, reduceCtorEq]) ?_)
    | ((with_reducible (first | refine rBodyZ ?_ | refine nBodyZ ?_ | refine rBodyQ ?_ | refine nBodyQ ?_)); simp only [hd, hgk, hrk, hw, go_sem, Nat.reduceAdd, Nat.reduceSub, Nat.reduceMul, Nat.reduceDiv, Nat.reduceMod, Nat.reduceLT, Nat.reduceLeDiff, Nat.reduceEqDiff, Nat.reduceBEq, Nat.reduceBNe, reduceCtorEq, Int.reduceLE, Int.reduceLT, Int.reduceNeg, Int.reduceToNat, Int.reduceAdd, Int.reduceSub, Int.reduceMul, Int.reduceBEq, Int.reduceBNe, Int.reduceEq]))
      refine appC.r ?_
      simp only [aappendM, asrc, go_sem, Nat.reduceAdd, Nat.reduceSub, Nat.reduceMul, Nat.reduceDiv, Nat.reduceMod, Nat.reduceLT, Nat.reduceLeDiff, Nat.reduceEqDiff, Nat.reduceBEq, Nat.reduceBNe, reduceCtorEq, Int.reduceLE, Int.reduceLT, Int.reduceNeg, Int.reduceToNat, Int.reduceAdd, Int.reduceSub, Int.reduceMul, Int.reduceBEq, Int.reduceBNe, Int.reduceEq]
      refine appM_vec0 (by omega) (by simp) (by rfl) (by omega) (by omega) fun cap' junk' h1 h2 => ?_
      have hw2 : IntKind.i64.wrap (((1 : Nat) : Int) - 1) = 0 := by rw [wrap_i64 (by omega) (by omega)]; rfl
      have hw3 : IntKind.i64.wrap (0 + 1) = 1 := by rw [wrap_i64 (by omega) (by omega)]; rfl
      have hw5 : IntKind.i64.wrap 1 = 1 := by rw [wrap_i64 (by omega) (by omega)]
      have hr1 : ((0 : Int) ≤ 0 ∧ (0 : Int) < ((1 : Nat) : Int)) = True := by simp
      have hL1 : refL l 1 = [((0 : Int), (1 : Int), l[0])] := by simp [refL, hlt]
      simp only [List.map, AV.pl] at h1 ⊢
      repeat' (first
    | ((first | ((with_reducible refine awOps_move ?_ ?_); decide +kernel) | ((with_reducible refine awOps_load ?_ ?_); decide +kernel) | ((with_reducible refine awOps_one ?_ ?_); decide +kernel) | (with_reducible refine awOps_feed ?_) | ((with_reducible refine awOps_g ?_); refine awOps_guard rfl ?_) | ((with_reducible refine awT_one ?_ ?_); decide +kernel) | ((with_reducible refine awT_call ?_ ?_); decide +kernel) | ((with_reducible refine awT_g ?_); refine awT_guard rfl ?_) | ((with_reducible refine awU_one ?_ ?_); decide +kernel) | ((with_reducible refine awU_call ?_ ?_); decide +kernel) | ((with_reducible refine awU_g ?_); refine awU_guard rfl ?_) | (with_reducible refine AWp.condH ?_)); intro K Q' hK hQ; simp only [hw2, hw3, hr1, Nat.zero_mul, hd, hgk, hrk, go_sem, Nat.reduceAdd, Nat.reduceSub, Nat.reduceMul, Nat.reduceDiv, Nat.reduceMod, Nat.reduceLT, Nat.reduceLeDiff, Nat.reduceEqDiff, Nat.reduceBEq, Nat.reduceBNe, reduceCtorEq, Int.reduceLE, Int.reduceLT, Int.reduceNeg, Int.reduceToNat, Int.reduceAdd, Int.reduceSub, Int.reduceMul, Int.reduceBEq, Int.reduceBNe, Int.reduceEq]; subst hK hQ)
    | ((with_reducible refine AWp.drawT Try.follows ?_ ?_); decide +kernel) | ((with_reducible refine AWp.drawU Try.follows ?_ ?_); decide +kernel)
    | with_reducible (first | refine awOps_end ?_ | refine awT_end ?_ | refine awU_end ?_ | refine nThen ?_ | refine putKn ?_ | refine nSuf ?_ | refine rThen ?_ | refine eThen ?_ | refine nBlock ?_ | refine eBlock ?_ | refine fBlock (by decide) ?_ | refine rBlock ?_ | refine nScope ?_ | refine eScope ?_ | refine rScope ?_ | refine AWp.seq ?_ | refine AWp.block ?_ | refine AWp.scope ?_ | refine AWp.text ?_ | refine AWp.skip ?_ | refine AWp.exit ?_ | refine AWp.ret ?_ | refine AWp.label ?_ | refine brK_T (by assumption) ?_ | refine brK_F (by assumption) ?_ | refine brK_mk (fun hb => ?_) (fun hb => ?_) | refine And.intro (by first | assumption | omega | simp only [go_sem, reduceCtorEq]) ?_)
    | ((with_reducible (first | refine rBodyZ ?_ | refine nBodyZ ?_ | refine rBodyQ ?_ | refine nBodyQ ?_)); simp only [hw2, hw3, hr1, Nat.zero_mul, hd, hgk, hrk, go_sem, Nat.reduceAdd, Nat.reduceSub, Nat.reduceMul, Nat.reduceDiv, Nat.reduceMod, Nat.reduceLT, Nat.reduceLeDiff, Nat.reduceEqDiff, Nat.reduceBEq, Nat.reduceBNe, reduceCtorEq, Int.reduceLE, Int.reduceLT, Int.reduceNeg, Int.reduceToNat, Int.reduceAdd, Int.reduceSub, Int.reduceMul, Int.reduceBEq, Int.reduceBNe, Int.reduceEq]))
      refine ⟨⟨1, js, cap', junk'⟩, ⟨by simp only; omega, by simp [hL1], fun _ => ⟨by simp [hL1], by rw [hL1]; simp [encSpans, encSpan]; simp at h1; omega, by simp [hL1]; omega⟩⟩, by simp only; omega, ?_, ?_⟩
      · simp only [hL1, outV, Int.natCast_one, hw5, go_sem, Nat.reduceAdd, Nat.reduceSub, Nat.reduceMul, Nat.reduceDiv, Nat.reduceMod, Nat.reduceLT, Nat.reduceLeDiff, Nat.reduceEqDiff, Nat.reduceBEq, Nat.reduceBNe, reduceCtorEq, Int.reduceLE, Int.reduceLT, Int.reduceNeg, Int.reduceToNat, Int.reduceAdd, Int.reduceSub, Int.reduceMul, Int.reduceBEq, Int.reduceBNe, Int.reduceEq]
      · simp only [hL1, outS, encSpans, encSpan, List.flatMap_cons, List.flatMap_nil, List.append_nil, List.cons_append, List.nil_append]
        exact WeakS.refl _
    · obtain ⟨hne, hc1, hc2⟩ := hcap h0
      obtain ⟨L, s, hL⟩ : ∃ L s, refL l k = L ++ [s] := ⟨_, _, (List.dropLast_concat_getLast hne).symm⟩
      rw [outV_ne hne, outS_ne hne]
      have hk0 : ((k : Int) == 0) = false := by simp; omega
      have hwk : IntKind.i64.wrap ((k : Int) - 1) = ((k - 1 : Nat) : Int) := by rw [wrap_i64 (by omega) (by omega)]; omega
      have hgk1 := encInts_get l (k - 1) (by omega)
      have hgd1 : l.getD (k - 1) 0 = l[k - 1] := by simp [show k - 1 < l.length by omega]
      have hrk1 : (0 : Int) ≤ ((k - 1 : Nat) : Int) ∧ ((k - 1 : Nat) : Int) < (l.length : Int) := by omega
      have hsucc := refL_succ l k
      rw [hgd, hgd1, hL] at hsucc
      rw [hL] at hc1 hc2 hkl ⊢
      simp only [List.length_append, List.length_cons, List.length_nil, Nat.zero_add] at hc2 hkl
      repeat' (first
    | ((first | ((with_reducible refine awOps_move ?_ ?_); decide +kernel) | ((with_reducible refine awOps_load ?_ ?_); decide +kernel) | ((with_reducible refine awOps_one ?_ ?_); decide +kernel) | (with_reducible refine awOps_feed ?_) | ((with_reducible refine awOps_g ?_); refine awOps_guard rfl ?_) | ((with_reducible refine awT_one ?_ ?_); decide +kernel) | ((with_reducible refine awT_call ?_ ?_); decide +kernel) | ((with_reducible refine awT_g ?_); refine awT_guard rfl ?_) | ((with_reducible refine awU_one ?_ ?_); decide +kernel) | ((with_reducible refine awU_call ?_ ?_); decide +kernel) | ((with_reducible refine awU_g ?_); refine awU_guard rfl ?_) | (with_reducible refine AWp.condH ?_)); intro K Q' hK hQ; simp only [hd, hk0, hwk, hgk1, hrk1, hgk, hrk, hw, go_sem, Nat.reduceAdd, Nat.reduceSub, Nat.reduceMul, Nat.reduceDiv, Nat.reduceMod, Nat.reduceLT, Nat.reduceLeDiff, Nat.reduceEqDiff, Nat.reduceBEq, Nat.reduceBNe, reduceCtorEq, Int.reduceLE, Int.reduceLT, Int.reduceNeg, Int.reduceToNat, Int.reduceAdd, Int.reduceSub, Int.reduceMul, Int.reduceBEq, Int.reduceBNe, Int.reduceEq]; subst hK hQ)
    | ((with_reducible refine AWp.drawT Try.follows ?_ ?_); decide +kernel) | ((with_reducible refine AWp.drawU Try.follows ?_ ?_); decide +kernel)
    | with_reducible (first | refine awOps_end ?_ | refine awT_end ?_ | refine awU_end ?_ | refine nThen ?_ | refine putKn ?_ | refine nSuf ?_ | refine rThen ?_ | refine eThen ?_ | refine nBlock ?_ | refine eBlock ?_ | refine fBlock (by decide) ?_ | refine rBlock ?_ | refine nScope ?_ | refine eScope ?_ | refine rScope ?_ | refine AWp.seq ?_ | refine AWp.block ?_ | refine AWp.scope ?_ | refine AWp.text ?_ | refine AWp.skip ?_ | refine AWp.exit ?_ | refine AWp.ret ?_ | refine AWp.label ?_ | refine brK_T (by assumption) ?_ | refine brK_F (by assumption) ?_ | refine brK_mk (fun hb => ?_) (fun hb => ?_) | refine And.intro (by first | assumption | omega | simp only [go_sem, reduceCtorEq]) ?_)
    | ((with_reducible (first | refine rBodyZ ?_ | refine nBodyZ ?_ | refine rBodyQ ?_ | refine nBodyQ ?_)); simp only [hd, hk0, hwk, hgk1, hrk1, hgk, hrk, hw, go_sem, Nat.reduceAdd, Nat.reduceSub, Nat.reduceMul, Nat.reduceDiv, Nat.reduceMod, Nat.reduceLT, Nat.reduceLeDiff, Nat.reduceEqDiff, Nat.reduceBEq, Nat.reduceBNe, reduceCtorEq, Int.reduceLE, Int.reduceLT, Int.reduceNeg, Int.reduceToNat, Int.reduceAdd, Int.reduceSub, Int.reduceMul, Int.reduceBEq, Int.reduceBNe, Int.reduceEq]))
      · have hnext : refL l (k + 1) = (L ++ [s]) ++ [((k : Int), ((k + 1 : Nat) : Int), l[k])] := by
          rw [hsucc, if_pos (.inr (by simpa using hb)), setTo_snoc]
        have hw4 : IntKind.i64.wrap (((L.length + 1 + 1 : Nat) : Int) - 1) = ((L.length + 1 : Nat) : Int) := by rw [wrap_i64 (by omega) (by omega)]; omega
        have hr4 : (0 : Int) ≤ ((L.length + 1 : Nat) : Int) ∧ ((L.length + 1 : Nat) : Int) < ((L.length + 1 + 1 : Nat) : Int) := by omega
        refine appC.r ?_
        simp only [aappendM, asrc, go_sem, Nat.reduceAdd, Nat.reduceSub, Nat.reduceMul, Nat.reduceDiv, Nat.reduceMod, Nat.reduceLT, Nat.reduceLeDiff, Nat.reduceEqDiff, Nat.reduceBEq, Nat.reduceBNe, reduceCtorEq, Int.reduceLE, Int.reduceLT, Int.reduceNeg, Int.reduceToNat, Int.reduceAdd, Int.reduceSub, Int.reduceMul, Int.reduceBEq, Int.reduceBNe, Int.reduceEq]
        refine appM_vec (cs := encSpans (L ++ [s])) (by rw [encSpans_len]; simp; omega) (by simp) (by rfl) (by omega) (by omega) hc1 (by omega) (fun js' cap' junk' h1 h2 => ?_) (pl_spans _)
        have hset := set_last (L ++ [s]) ((k : Int), (0 : Int), l[k]) junk' ((k + 1 : Nat) : Int)
        simp only [List.length_append, List.length_cons, List.length_nil, Nat.zero_add] at hset
        simp only [List.map, AV.pl, List.append_assoc, List.cons_append, List.nil_append] at h1 ⊢
        have hes : (encSpans (L ++ [s])).length = 3 * (L.length + 1) := by rw [encSpans_len]; simp
        have h1' : (encSpans (L ++ [s]) ++ (.i .i64 k :: .i .i64 ((k + 1 : Nat) : Int) :: .i .i64 l[k] :: junk')).length = cap' * 3 := by simpa using h1
        repeat' (first
    | ((first | ((with_reducible refine awOps_move ?_ ?_); decide +kernel) | ((with_reducible refine awOps_load ?_ ?_); decide +kernel) | ((with_reducible refine awOps_one ?_ ?_); decide +kernel) | (with_reducible refine awOps_feed ?_) | ((with_reducible refine awOps_g ?_); refine awOps_guard rfl ?_) | ((with_reducible refine awT_one ?_ ?_); decide +kernel) | ((with_reducible refine awT_call ?_ ?_); decide +kernel) | ((with_reducible refine awT_g ?_); refine awT_guard rfl ?_) | ((with_reducible refine awU_one ?_ ?_); decide +kernel) | ((with_reducible refine awU_call ?_ ?_); decide +kernel) | ((with_reducible refine awU_g ?_); refine awU_guard rfl ?_) | (with_reducible refine AWp.condH ?_)); intro K Q' hK hQ; simp only [hw4, hr4, hd, hgk, hrk, hw, hset, go_sem, Nat.reduceAdd, Nat.reduceSub, Nat.reduceMul, Nat.reduceDiv, Nat.reduceMod, Nat.reduceLT, Nat.reduceLeDiff, Nat.reduceEqDiff, Nat.reduceBEq, Nat.reduceBNe, reduceCtorEq, Int.reduceLE, Int.reduceLT, Int.reduceNeg, Int.reduceToNat, Int.reduceAdd, Int.reduceSub, Int.reduceMul, Int.reduceBEq, Int.reduceBNe, Int.reduceEq]; subst hK hQ)
    | ((with_reducible refine AWp.drawT Try.follows ?_ ?_); decide +kernel) | ((with_reducible refine AWp.drawU Try.follows ?_ ?_); decide +kernel)
    | with_reducible (first | refine awOps_end ?_ | refine awT_end ?_ | refine awU_end ?_ | refine nThen ?_ | refine putKn ?_ | refine nSuf ?_ | refine rThen ?_ | refine eThen ?_ | refine nBlock ?_ | refine eBlock ?_ | refine fBlock (by decide) ?_ | refine rBlock ?_ | refine nScope ?_ | refine eScope ?_ | refine rScope ?_ | refine AWp.seq ?_ | refine AWp.block ?_ | refine AWp.scope ?_ | refine AWp.text ?_ | refine AWp.skip ?_ | refine AWp.exit ?_ | refine AWp.ret ?_ | refine AWp.label ?_ | refine brK_T (by assumption) ?_ | refine brK_F (by assumption) ?_ | refine brK_mk (fun hb => ?_) (fun hb => ?_) | refine And.intro (by first | assumption | omega | simp only [go_sem, reduceCtorEq]) ?_)
    | ((with_reducible (first | refine rBodyZ ?_ | refine nBodyZ ?_ | refine rBodyQ ?_ | refine nBodyQ ?_)); simp only [hw4, hr4, hd, hgk, hrk, hw, hset, go_sem, Nat.reduceAdd, Nat.reduceSub, Nat.reduceMul, Nat.reduceDiv, Nat.reduceMod, Nat.reduceLT, Nat.reduceLeDiff, Nat.reduceEqDiff, Nat.reduceBEq, Nat.reduceBNe, reduceCtorEq, Int.reduceLE, Int.reduceLT, Int.reduceNeg, Int.reduceToNat, Int.reduceAdd, Int.reduceSub, Int.reduceMul, Int.reduceBEq, Int.reduceBNe, Int.reduceEq]))
        have hne' : refL l (k + 1) ≠ [] := by rw [hnext]; simp
        have hV := outV_ne (σ := σ) (js := js') (cap := cap') hne'
        have hS := outS_ne (σ := σ) (js := js') (junk := junk') hne'
        refine ⟨⟨k + 1, js', cap', junk'⟩, ⟨by simp only; omega, by rw [hnext]; simp; omega, fun _ => ⟨by rw [hnext]; simp, by have := h1'; simp only [hnext]; simp [encSpans_len] at this ⊢; omega, by simp only [hnext]; simp; omega⟩⟩, by simp only; omega, ?_, ?_⟩
        · simp only [hV]
          simp only [hnext, hw, go_sem, Nat.reduceAdd, Nat.reduceSub, Nat.reduceMul, Nat.reduceDiv, Nat.reduceMod, Nat.reduceLT, Nat.reduceLeDiff, Nat.reduceEqDiff, Nat.reduceBEq, Nat.reduceBNe, reduceCtorEq, Int.reduceLE, Int.reduceLT, Int.reduceNeg, Int.reduceToNat, Int.reduceAdd, Int.reduceSub, Int.reduceMul, Int.reduceBEq, Int.reduceBNe, Int.reduceEq]
        · show WeakS _ (outS σ _ _ (refL l (k + 1)))
          rw [hS, hnext, encSpans_snoc (L ++ [s])]
          exact WeakS.refl _
      · have hnext : refL l (k + 1) = L ++ [(s.1, ((k + 1 : Nat) : Int), s.2.2)] := by
          rw [hsucc, if_neg (by simp at hb; simp [hb]; omega), setTo_snoc]
        have hw4 : IntKind.i64.wrap (((L.length + 1 : Nat) : Int) - 1) = (L.length : Int) := by rw [wrap_i64 (by omega) (by omega)]; omega
        have hr4 : (0 : Int) ≤ (L.length : Int) ∧ (L.length : Int) < ((L.length + 1 : Nat) : Int) := by omega
        have hset := set_last L s junk ((k + 1 : Nat) : Int)
        have hes : (encSpans L).length = 3 * L.length := by rw [encSpans_len]
        rw [encSpans_snoc] at hc1 ⊢
        have h1' : (encSpans L ++ (.i .i64 s.1 :: .i .i64 ((k + 1 : Nat) : Int) :: .i .i64 s.2.2 :: junk)).length = cap * 3 := by simpa using hc1
        repeat' (first
    | ((first | ((with_reducible refine awOps_move ?_ ?_); decide +kernel) | ((with_reducible refine awOps_load ?_ ?_); decide +kernel) | ((with_reducible refine awOps_one ?_ ?_); decide +kernel) | (with_reducible refine awOps_feed ?_) | ((with_reducible refine awOps_g ?_); refine awOps_guard rfl ?_) | ((with_reducible refine awT_one ?_ ?_); decide +kernel) | ((with_reducible refine awT_call ?_ ?_); decide +kernel) | ((with_reducible refine awT_g ?_); refine awT_guard rfl ?_) | ((with_reducible refine awU_one ?_ ?_); decide +kernel) | ((with_reducible refine awU_call ?_ ?_); decide +kernel) | ((with_reducible refine awU_g ?_); refine awU_guard rfl ?_) | (with_reducible refine AWp.condH ?_)); intro K Q' hK hQ; simp only [hw4, hr4, hd, hgk, hrk, hw, hset, go_sem, Nat.reduceAdd, Nat.reduceSub, Nat.reduceMul, Nat.reduceDiv, Nat.reduceMod, Nat.reduceLT, Nat.reduceLeDiff, Nat.reduceEqDiff, Nat.reduceBEq, Nat.reduceBNe, reduceCtorEq, Int.reduceLE, Int.reduceLT, Int.reduceNeg, Int.reduceToNat, Int.reduceAdd, Int.reduceSub, Int.reduceMul, Int.reduceBEq, Int.reduceBNe, Int.reduceEq]; subst hK hQ)
    | ((with_reducible refine AWp.drawT Try.follows ?_ ?_); decide +kernel) | ((with_reducible refine AWp.drawU Try.follows ?_ ?_); decide +kernel)
    | with_reducible (first | refine awOps_end ?_ | refine awT_end ?_ | refine awU_end ?_ | refine nThen ?_ | refine putKn ?_ | refine nSuf ?_ | refine rThen ?_ | refine eThen ?_ | refine nBlock ?_ | refine eBlock ?_ | refine fBlock (by decide) ?_ | refine rBlock ?_ | refine nScope ?_ | refine eScope ?_ | refine rScope ?_ | refine AWp.seq ?_ | refine AWp.block ?_ | refine AWp.scope ?_ | refine AWp.text ?_ | refine AWp.skip ?_ | refine AWp.exit ?_ | refine AWp.ret ?_ | refine AWp.label ?_ | refine brK_T (by assumption) ?_ | refine brK_F (by assumption) ?_ | refine brK_mk (fun hb => ?_) (fun hb => ?_) | refine And.intro (by first | assumption | omega | simp only [go_sem, reduceCtorEq]) ?_)
    | ((with_reducible (first | refine rBodyZ ?_ | refine nBodyZ ?_ | refine rBodyQ ?_ | refine nBodyQ ?_)); simp only [hw4, hr4, hd, hgk, hrk, hw, hset, go_sem, Nat.reduceAdd, Nat.reduceSub, Nat.reduceMul, Nat.reduceDiv, Nat.reduceMod, Nat.reduceLT, Nat.reduceLeDiff, Nat.reduceEqDiff, Nat.reduceBEq, Nat.reduceBNe, reduceCtorEq, Int.reduceLE, Int.reduceLT, Int.reduceNeg, Int.reduceToNat, Int.reduceAdd, Int.reduceSub, Int.reduceMul, Int.reduceBEq, Int.reduceBNe, Int.reduceEq]))
        have hne' : refL l (k + 1) ≠ [] := by rw [hnext]; simp
        have hV := outV_ne (σ := σ) (js := js) (cap := cap) hne'
        have hS := outS_ne (σ := σ) (js := js) (junk := junk) hne'
        refine ⟨⟨k + 1, js, cap, junk⟩, ⟨by simp only; omega, by rw [hnext]; simp; omega, fun _ => ⟨by rw [hnext]; simp, by have := h1'; simp only [hnext]; simp [encSpans_len] at this ⊢; omega, by simp only [hnext]; simp; omega⟩⟩, by simp only; omega, ?_, ?_⟩
        · simp only [hV]
          simp only [hnext, hw, go_sem, Nat.reduceAdd, Nat.reduceSub, Nat.reduceMul, Nat.reduceDiv, Nat.reduceMod, Nat.reduceLT, Nat.reduceLeDiff, Nat.reduceEqDiff, Nat.reduceBEq, Nat.reduceBNe, reduceCtorEq, Int.reduceLE, Int.reduceLT, Int.reduceNeg, Int.reduceToNat, Int.reduceAdd, Int.reduceSub, Int.reduceMul, Int.reduceBEq, Int.reduceBNe, Int.reduceEq]
        · show WeakS _ (outS σ _ _ (refL l (k + 1)))
          rw [hS, hnext, encSpans_snoc]
          exact WeakS.refl _
  · have hd : decide ((k : Int) < (l.length : Int)) = false := by simp; omega
    have hkl : k = l.length := by omega
    subst hkl
    cases hL : refL l l.length with
    | nil =>
      simp only [outV, outS]
      repeat' (first
    | ((first | ((with_reducible refine awOps_move ?_ ?_); decide +kernel) | ((with_reducible refine awOps_load ?_ ?_); decide +kernel) | ((with_reducible refine awOps_one ?_ ?_); decide +kernel) | (with_reducible refine awOps_feed ?_) | ((with_reducible refine awOps_g ?_); refine awOps_guard rfl ?_) | ((with_reducible refine awT_one ?_ ?_); decide +kernel) | ((with_reducible refine awT_call ?_ ?_); decide +kernel) | ((with_reducible refine awT_g ?_); refine awT_guard rfl ?_) | ((with_reducible refine awU_one ?_ ?_); decide +kernel) | ((with_reducible refine awU_call ?_ ?_); decide +kernel) | ((with_reducible refine awU_g ?_); refine awU_guard rfl ?_) | (with_reducible refine AWp.condH ?_)); intro K Q' hK hQ; simp only [hd, go_sem, Nat.reduceAdd, Nat.reduceSub, Nat.reduceMul, Nat.reduceDiv, Nat.reduceMod, Nat.reduceLT, Nat.reduceLeDiff, Nat.reduceEqDiff, Nat.reduceBEq, Nat.reduceBNe, reduceCtorEq, Int.reduceLE, Int.reduceLT, Int.reduceNeg, Int.reduceToNat, Int.reduceAdd, Int.reduceSub, Int.reduceMul, Int.reduceBEq, Int.reduceBNe, Int.reduceEq]; subst hK hQ)
    | ((with_reducible refine AWp.drawT Try.follows ?_ ?_); decide +kernel) | ((with_reducible refine AWp.drawU Try.follows ?_ ?_); decide +kernel)
    | with_reducible (first | refine awOps_end ?_ | refine awT_end ?_ | refine awU_end ?_ | refine nThen ?_ | refine putKn ?_ | refine nSuf ?_ | refine rThen ?_ | refine eThen ?_ | refine nBlock ?_ | refine eBlock ?_ | refine fBlock (by decide) ?_ | refine rBlock ?_ | refine nScope ?_ | refine eScope ?_ | refine rScope ?_ | refine AWp.seq ?_ | refine AWp.block ?_ | refine AWp.scope ?_ | refine AWp.text ?_ | refine AWp.skip ?_ | refine AWp.exit ?_ | refine AWp.ret ?_ | refine AWp.label ?_ | refine brK_T (by assumption) ?_ | refine brK_F (by assumption) ?_ | refine brK_mk (fun hb => ?_) (fun hb => ?_) | refine And.intro (by first | assumption | omega | simp only [go_sem, reduceCtorEq]) ?_)
    | ((with_reducible (first | refine rBodyZ ?_ | refine nBodyZ ?_ | refine rBodyQ ?_ | refine nBodyQ ?_)); simp only [hd, go_sem, Nat.reduceAdd, Nat.reduceSub, Nat.reduceMul, Nat.reduceDiv, Nat.reduceMod, Nat.reduceLT, Nat.reduceLeDiff, Nat.reduceEqDiff, Nat.reduceBEq, Nat.reduceBNe, reduceCtorEq, Int.reduceLE, Int.reduceLT, Int.reduceNeg, Int.reduceToNat, Int.reduceAdd, Int.reduceSub, Int.reduceMul, Int.reduceBEq, Int.reduceBNe, Int.reduceEq]))
      exact ⟨rfl, rfl⟩
    | cons s r =>
      simp only [hL] at hcap
      simp only [outV, outS]
      repeat' (first
    | ((first | ((with_reducible refine awOps_move ?_ ?_); decide +kernel) | ((with_reducible refine awOps_load ?_ ?_); decide +kernel) | ((with_reducible refine awOps_one ?_ ?_); decide +kernel) | (with_reducible refine awOps_feed ?_) | ((with_reducible refine awOps_g ?_); refine awOps_guard rfl ?_) | ((with_reducible refine awT_one ?_ ?_); decide +kernel) | ((with_reducible refine awT_call ?_ ?_); decide +kernel) | ((with_reducible refine awT_g ?_); refine awT_guard rfl ?_) | ((with_reducible refine awU_one ?_ ?_); decide +kernel) | ((with_reducible refine awU_call ?_ ?_); decide +kernel) | ((with_reducible refine awU_g ?_); refine awU_guard rfl ?_) | (with_reducible refine AWp.condH ?_)); intro K Q' hK hQ; simp only [hd, go_sem, Nat.reduceAdd, Nat.reduceSub, Nat.reduceMul, Nat.reduceDiv, Nat.reduceMod, Nat.reduceLT, Nat.reduceLeDiff, Nat.reduceEqDiff, Nat.reduceBEq, Nat.reduceBNe, reduceCtorEq, Int.reduceLE, Int.reduceLT, Int.reduceNeg, Int.reduceToNat, Int.reduceAdd, Int.reduceSub, Int.reduceMul, Int.reduceBEq, Int.reduceBNe, Int.reduceEq]; subst hK hQ)
    | ((with_reducible refine AWp.drawT Try.follows ?_ ?_); decide +kernel) | ((with_reducible refine AWp.drawU Try.follows ?_ ?_); decide +kernel)
    | with_reducible (first | refine awOps_end ?_ | refine awT_end ?_ | refine awU_end ?_ | refine nThen ?_ | refine putKn ?_ | refine nSuf ?_ | refine rThen ?_ | refine eThen ?_ | refine nBlock ?_ | refine eBlock ?_ | refine fBlock (by decide) ?_ | refine rBlock ?_ | refine nScope ?_ | refine eScope ?_ | refine rScope ?_ | refine AWp.seq ?_ | refine AWp.block ?_ | refine AWp.scope ?_ | refine AWp.text ?_ | refine AWp.skip ?_ | refine AWp.exit ?_ | refine AWp.ret ?_ | refine AWp.label ?_ | refine brK_T (by assumption) ?_ | refine brK_F (by assumption) ?_ | refine brK_mk (fun hb => ?_) (fun hb => ?_) | refine And.intro (by first | assumption | omega | simp only [go_sem, reduceCtorEq]) ?_)
    | ((with_reducible (first | refine rBodyZ ?_ | refine nBodyZ ?_ | refine rBodyQ ?_ | refine nBodyQ ?_)); simp only [hd, go_sem, Nat.reduceAdd, Nat.reduceSub, Nat.reduceMul, Nat.reduceDiv, Nat.reduceMod, Nat.reduceLT, Nat.reduceLeDiff, Nat.reduceEqDiff, Nat.reduceBEq, Nat.reduceBNe, reduceCtorEq, Int.reduceLE, Int.reduceLT, Int.reduceNeg, Int.reduceToNat, Int.reduceAdd, Int.reduceSub, Int.reduceMul, Int.reduceBEq, Int.reduceBNe, Int.reduceEq]))
      have ht : List.take ((r.length + 1) * 3) (List.drop 0 (encSpans (s :: r) ++ junk)) = encSpans (s :: r) := by
        rw [List.drop_zero]
        exact List.take_left' (by rw [encSpans_len]; simp; omega)
      rw [ht]
      exact ⟨cleanS _ _, rfl, rfl⟩

theorem sp553 : spansFrom [5, 5, 3] 0 = [(0, 2, 5), (2, 3, 3)] := by simp [spansFrom, endOf]
theorem spans553 (σ : AState) : ACalls Try.prog G0 10 [.sl .no 3 [.i .i64 5, .i .i64 5, .i .i64 3]] σ (retIs (.sl .no 2 [.i .i64 0, .i .i64 2, .i .i64 5, .i .i64 2, .i .i64 3, .i .i64 3]) σ) := by
  have h := spans [5, 5, 3] (by simp) σ
  rw [sp553] at h
  exact h
theorem covers3 (σ : AState) : ACalls Try.prog G0 12 [.sl .no 2 [.i .i64 0, .i .i64 2, .i .i64 5, .i .i64 2, .i .i64 3, .i .i64 3], .i .i64 3] σ (retIs (.b true) σ) := covers [(0, 2, 5), (2, 3, 3)] 3 σ (by simp)
theorem covers4 (σ : AState) : ACalls Try.prog G0 12 [.sl .no 2 [.i .i64 0, .i .i64 2, .i .i64 5, .i .i64 2, .i .i64 3, .i .i64 3], .i .i64 4] σ (retIs (.b false) σ) := covers [(0, 2, 5), (2, 3, 3)] 4 σ (by simp)

theorem known18 (σ : AState) : ACalls Try.prog G0 8 [] σ (retIs (.b true) σ) := by
  have hfok := fok31
  simp only [go_sem] at hfok
  have nc2 : ((2 : Nat) : Int) = 2 := rfl
  refine ACalls.bodyZ G0_pl Try.func8 rfl (by rfl) (by decide) ?_; simp only [Try.ntmps8, List.replicate, go_sem, Nat.reduceAdd, Nat.reduceSub]
  repeat' (first
    | ((first | ((with_reducible refine awOps_move ?_ ?_); decide +kernel) | ((with_reducible refine awOps_load ?_ ?_); decide +kernel) | ((with_reducible refine awOps_one ?_ ?_); decide +kernel) | (with_reducible refine awOps_feed ?_) | ((with_reducible refine awOps_g ?_); refine awOps_guard rfl ?_) | ((with_reducible refine awT_one ?_ ?_); decide +kernel) | ((with_reducible refine awT_call ?_ ?_); decide +kernel) | ((with_reducible refine awT_g ?_); refine awT_guard rfl ?_) | ((with_reducible refine awU_one ?_ ?_); decide +kernel) | ((with_reducible refine awU_call ?_ ?_); decide +kernel) | ((with_reducible refine awU_g ?_); refine awU_guard rfl ?_) | (with_reducible refine AWp.condH ?_)); intro K Q' hK hQ; simp only [go_sem, Nat.reduceAdd, Nat.reduceSub, Nat.reduceMul, Nat.reduceDiv, Nat.reduceMod, Nat.reduceLT, Nat.reduceLeDiff, Nat.reduceEqDiff, Nat.reduceBEq, Nat.reduceBNe, reduceCtorEq, Int.reduceLE, Int.reduceLT, Int.reduceNeg, Int.reduceToNat, Int.reduceAdd, Int.reduceSub, Int.reduceMul, Int.reduceBEq, Int.reduceBNe, Int.reduceEq]; subst hK hQ)
    | ((with_reducible refine AWp.drawT Try.follows ?_ ?_); decide +kernel) | ((with_reducible refine AWp.drawU Try.follows ?_ ?_); decide +kernel)
    | with_reducible (first | refine awOps_end ?_ | refine awT_end ?_ | refine awU_end ?_ | refine nThen ?_ | refine putKn ?_ | refine nSuf ?_ | refine rThen ?_ | refine eThen ?_ | refine nBlock ?_ | refine eBlock ?_ | refine fBlock (by decide) ?_ | refine rBlock ?_ | refine nScope ?_ | refine eScope ?_ | refine rScope ?_ | refine AWp.seq ?_ | refine AWp.block ?_ | refine AWp.scope ?_ | refine AWp.text ?_ | refine AWp.skip ?_ | refine AWp.exit ?_ | refine AWp.ret ?_ | refine AWp.label ?_ | refine brK_T (by assumption) ?_ | refine brK_F (by assumption) ?_ | refine brK_mk (fun hb => ?_) (fun hb => ?_) | refine And.intro (by first | assumption | omega | simp only [go_sem, reduceCtorEq]) ?_)
    | ((with_reducible (first | refine rBodyZ ?_ | refine nBodyZ ?_ | refine rBodyQ ?_ | refine nBodyQ ?_)); simp only [go_sem, Nat.reduceAdd, Nat.reduceSub, Nat.reduceMul, Nat.reduceDiv, Nat.reduceMod, Nat.reduceLT, Nat.reduceLeDiff, Nat.reduceEqDiff, Nat.reduceBEq, Nat.reduceBNe, reduceCtorEq, Int.reduceLE, Int.reduceLT, Int.reduceNeg, Int.reduceToNat, Int.reduceAdd, Int.reduceSub, Int.reduceMul, Int.reduceBEq, Int.reduceBNe, Int.reduceEq]))
  refine ACalls.use (spans553 σ) ?_
  repeat' (first
    | ((first | ((with_reducible refine awOps_move ?_ ?_); decide +kernel) | ((with_reducible refine awOps_load ?_ ?_); decide +kernel) | ((with_reducible refine awOps_one ?_ ?_); decide +kernel) | (with_reducible refine awOps_feed ?_) | ((with_reducible refine awOps_g ?_); refine awOps_guard rfl ?_) | ((with_reducible refine awT_one ?_ ?_); decide +kernel) | ((with_reducible refine awT_call ?_ ?_); decide +kernel) | ((with_reducible refine awT_g ?_); refine awT_guard rfl ?_) | ((with_reducible refine awU_one ?_ ?_); decide +kernel) | ((with_reducible refine awU_call ?_ ?_); decide +kernel) | ((with_reducible refine awU_g ?_); refine awU_guard rfl ?_) | (with_reducible refine AWp.condH ?_)); intro K Q' hK hQ; simp only [nc2, hfok, Nat.zero_mul, Nat.one_mul, go_sem, Nat.reduceAdd, Nat.reduceSub, Nat.reduceMul, Nat.reduceDiv, Nat.reduceMod, Nat.reduceLT, Nat.reduceLeDiff, Nat.reduceEqDiff, Nat.reduceBEq, Nat.reduceBNe, reduceCtorEq, Int.reduceLE, Int.reduceLT, Int.reduceNeg, Int.reduceToNat, Int.reduceAdd, Int.reduceSub, Int.reduceMul, Int.reduceBEq, Int.reduceBNe, Int.reduceEq]; subst hK hQ)
    | ((with_reducible refine AWp.drawT Try.follows ?_ ?_); decide +kernel) | ((with_reducible refine AWp.drawU Try.follows ?_ ?_); decide +kernel)
    | with_reducible (first | refine awOps_end ?_ | refine awT_end ?_ | refine awU_end ?_ | refine nThen ?_ | refine putKn ?_ | refine nSuf ?_ | refine rThen ?_ | refine eThen ?_ | refine nBlock ?_ | refine eBlock ?_ | refine fBlock (by decide) ?_ | refine rBlock ?_ | refine nScope ?_ | refine eScope ?_ | refine rScope ?_ | refine AWp.seq ?_ | refine AWp.block ?_ | refine AWp.scope ?_ | refine AWp.text ?_ | refine AWp.skip ?_ | refine AWp.exit ?_ | refine AWp.ret ?_ | refine AWp.label ?_ | refine brK_T (by assumption) ?_ | refine brK_F (by assumption) ?_ | refine brK_mk (fun hb => ?_) (fun hb => ?_) | refine And.intro (by first | assumption | omega | simp only [go_sem, reduceCtorEq]) ?_)
    | ((with_reducible (first | refine rBodyZ ?_ | refine nBodyZ ?_ | refine rBodyQ ?_ | refine nBodyQ ?_)); simp only [nc2, hfok, Nat.zero_mul, Nat.one_mul, go_sem, Nat.reduceAdd, Nat.reduceSub, Nat.reduceMul, Nat.reduceDiv, Nat.reduceMod, Nat.reduceLT, Nat.reduceLeDiff, Nat.reduceEqDiff, Nat.reduceBEq, Nat.reduceBNe, reduceCtorEq, Int.reduceLE, Int.reduceLT, Int.reduceNeg, Int.reduceToNat, Int.reduceAdd, Int.reduceSub, Int.reduceMul, Int.reduceBEq, Int.reduceBNe, Int.reduceEq]))
  refine ACalls.use (covers3 σ) ?_
  repeat' (first
    | ((first | ((with_reducible refine awOps_move ?_ ?_); decide +kernel) | ((with_reducible refine awOps_load ?_ ?_); decide +kernel) | ((with_reducible refine awOps_one ?_ ?_); decide +kernel) | (with_reducible refine awOps_feed ?_) | ((with_reducible refine awOps_g ?_); refine awOps_guard rfl ?_) | ((with_reducible refine awT_one ?_ ?_); decide +kernel) | ((with_reducible refine awT_call ?_ ?_); decide +kernel) | ((with_reducible refine awT_g ?_); refine awT_guard rfl ?_) | ((with_reducible refine awU_one ?_ ?_); decide +kernel) | ((with_reducible refine awU_call ?_ ?_); decide +kernel) | ((with_reducible refine awU_g ?_); refine awU_guard rfl ?_) | (with_reducible refine AWp.condH ?_)); intro K Q' hK hQ; simp only [nc2, go_sem, Nat.reduceAdd, Nat.reduceSub, Nat.reduceMul, Nat.reduceDiv, Nat.reduceMod, Nat.reduceLT, Nat.reduceLeDiff, Nat.reduceEqDiff, Nat.reduceBEq, Nat.reduceBNe, reduceCtorEq, Int.reduceLE, Int.reduceLT, Int.reduceNeg, Int.reduceToNat, Int.reduceAdd, Int.reduceSub, Int.reduceMul, Int.reduceBEq, Int.reduceBNe, Int.reduceEq]; subst hK hQ)
    | ((with_reducible refine AWp.drawT Try.follows ?_ ?_); decide +kernel) | ((with_reducible refine AWp.drawU Try.follows ?_ ?_); decide +kernel)
    | with_reducible (first | refine awOps_end ?_ | refine awT_end ?_ | refine awU_end ?_ | refine nThen ?_ | refine putKn ?_ | refine nSuf ?_ | refine rThen ?_ | refine eThen ?_ | refine nBlock ?_ | refine eBlock ?_ | refine fBlock (by decide) ?_ | refine rBlock ?_ | refine nScope ?_ | refine eScope ?_ | refine rScope ?_ | refine AWp.seq ?_ | refine AWp.block ?_ | refine AWp.scope ?_ | refine AWp.text ?_ | refine AWp.skip ?_ | refine AWp.exit ?_ | refine AWp.ret ?_ | refine AWp.label ?_ | refine brK_T (by assumption) ?_ | refine brK_F (by assumption) ?_ | refine brK_mk (fun hb => ?_) (fun hb => ?_) | refine And.intro (by first | assumption | omega | simp only [go_sem, reduceCtorEq]) ?_)
    | ((with_reducible (first | refine rBodyZ ?_ | refine nBodyZ ?_ | refine rBodyQ ?_ | refine nBodyQ ?_)); simp only [nc2, go_sem, Nat.reduceAdd, Nat.reduceSub, Nat.reduceMul, Nat.reduceDiv, Nat.reduceMod, Nat.reduceLT, Nat.reduceLeDiff, Nat.reduceEqDiff, Nat.reduceBEq, Nat.reduceBNe, reduceCtorEq, Int.reduceLE, Int.reduceLT, Int.reduceNeg, Int.reduceToNat, Int.reduceAdd, Int.reduceSub, Int.reduceMul, Int.reduceBEq, Int.reduceBNe, Int.reduceEq]))
  refine ACalls.use (covers4 σ) ?_
  repeat' (first
    | ((first | ((with_reducible refine awOps_move ?_ ?_); decide +kernel) | ((with_reducible refine awOps_load ?_ ?_); decide +kernel) | ((with_reducible refine awOps_one ?_ ?_); decide +kernel) | (with_reducible refine awOps_feed ?_) | ((with_reducible refine awOps_g ?_); refine awOps_guard rfl ?_) | ((with_reducible refine awT_one ?_ ?_); decide +kernel) | ((with_reducible refine awT_call ?_ ?_); decide +kernel) | ((with_reducible refine awT_g ?_); refine awT_guard rfl ?_) | ((with_reducible refine awU_one ?_ ?_); decide +kernel) | ((with_reducible refine awU_call ?_ ?_); decide +kernel) | ((with_reducible refine awU_g ?_); refine awU_guard rfl ?_) | (with_reducible refine AWp.condH ?_)); intro K Q' hK hQ; simp only [go_sem, Nat.reduceAdd, Nat.reduceSub, Nat.reduceMul, Nat.reduceDiv, Nat.reduceMod, Nat.reduceLT, Nat.reduceLeDiff, Nat.reduceEqDiff, Nat.reduceBEq, Nat.reduceBNe, reduceCtorEq, Int.reduceLE, Int.reduceLT, Int.reduceNeg, Int.reduceToNat, Int.reduceAdd, Int.reduceSub, Int.reduceMul, Int.reduceBEq, Int.reduceBNe, Int.reduceEq]; subst hK hQ)
    | ((with_reducible refine AWp.drawT Try.follows ?_ ?_); decide +kernel) | ((with_reducible refine AWp.drawU Try.follows ?_ ?_); decide +kernel)
    | with_reducible (first | refine awOps_end ?_ | refine awT_end ?_ | refine awU_end ?_ | refine nThen ?_ | refine putKn ?_ | refine nSuf ?_ | refine rThen ?_ | refine eThen ?_ | refine nBlock ?_ | refine eBlock ?_ | refine fBlock (by decide) ?_ | refine rBlock ?_ | refine nScope ?_ | refine eScope ?_ | refine rScope ?_ | refine AWp.seq ?_ | refine AWp.block ?_ | refine AWp.scope ?_ | refine AWp.text ?_ | refine AWp.skip ?_ | refine AWp.exit ?_ | refine AWp.ret ?_ | refine AWp.label ?_ | refine brK_T (by assumption) ?_ | refine brK_F (by assumption) ?_ | refine brK_mk (fun hb => ?_) (fun hb => ?_) | refine And.intro (by first | assumption | omega | simp only [go_sem, reduceCtorEq]) ?_)
    | ((with_reducible (first | refine rBodyZ ?_ | refine nBodyZ ?_ | refine rBodyQ ?_ | refine nBodyQ ?_)); simp only [go_sem, Nat.reduceAdd, Nat.reduceSub, Nat.reduceMul, Nat.reduceDiv, Nat.reduceMod, Nat.reduceLT, Nat.reduceLeDiff, Nat.reduceEqDiff, Nat.reduceBEq, Nat.reduceBNe, reduceCtorEq, Int.reduceLE, Int.reduceLT, Int.reduceNeg, Int.reduceToNat, Int.reduceAdd, Int.reduceSub, Int.reduceMul, Int.reduceBEq, Int.reduceBNe, Int.reduceEq]))
  exact ⟨rfl, rfl⟩
end Go.Proofs.Ytoofpdmdgofdcaa.L

namespace Go.Proofs.Ytoofpdmdgofdcaa.L
set_option linter.unusedVariables false
set_option linter.unusedSimpArgs false

def cov (p : Span) : List Span → Int → Prop
  | [], n => p.2.1 = n
  | s :: r, n => (s.1 = p.2.1 ∧ s.1 < s.2.1 ∧ 1 ≤ s.2.2 ∧ s.2.2 ≤ 9 ∧ s.2.2 ≠ p.2.2) ∧ cov s r n

def lastG (p : Span) (l : List Span) (k : Nat) : Span := match k with | 0 => p | k + 1 => l.getD k (0, 0, 0)
def okG (p : Span) (l : List Span) (k : Nat) : Prop := (l.getD k (0, 0, 0)).1 = (lastG p l k).2.1 ∧ (l.getD k (0, 0, 0)).1 < (l.getD k (0, 0, 0)).2.1 ∧ 1 ≤ (l.getD k (0, 0, 0)).2.2 ∧ (l.getD k (0, 0, 0)).2.2 ≤ 9 ∧ (l.getD k (0, 0, 0)).2.2 ≠ (lastG p l k).2.2
theorem cov_iff : ∀ (l : List Span) (p : Span) (n : Int), ((∀ k, k < l.length → okG p l k) ∧ (lastG p l l.length).2.1 = n) ↔ cov p l n
  | [], p, n => by simp [lastG, cov]
  | s :: r, p, n => by
    have ih := cov_iff r s n
    simp only [cov]
    rw [← ih]
    have h0 : okG p (s :: r) 0 ↔ (s.1 = p.2.1 ∧ s.1 < s.2.1 ∧ 1 ≤ s.2.2 ∧ s.2.2 ≤ 9 ∧ s.2.2 ≠ p.2.2) := by simp [okG, lastG]
    have hl : ∀ k, lastG p (s :: r) (k + 1) = lastG s r k := fun k => by cases k <;> simp [lastG]
    have hk : ∀ k, okG p (s :: r) (k + 1) ↔ okG s r k := fun k => by unfold okG; rw [hl]; simp
    rw [← h0, List.length_cons, hl]
    constructor
    · rintro ⟨h1, h2⟩
      exact ⟨h1 0 (by omega), fun k hk' => (hk k).1 (h1 (k + 1) (by omega)), h2⟩
    · rintro ⟨h1, h2, h3⟩
      refine ⟨fun k hk' => ?_, h3⟩
      cases k with
      | zero => exact h1
      | succ k => exact (hk k).2 (h2 k (by omega))
theorem coversP_iff (l : List Span) (n : Int) : coversP l n ↔ cov (0, 0, 0) l n := by
  rw [← cov_iff]
  have hl : ∀ k, lastAt l k = lastG (0, 0, 0) l k := fun k => by cases k <;> rfl
  unfold coversP okP okG
  simp only [hl]

theorem endOf_stop (l : List Int) (c : Int) (t : Nat) (h : endOf l c t < l.length) : l[endOf l c t] ≠ c := by
  unfold endOf at *
  have key : ∀ (m : List Int) (h : (m.takeWhile (· == c)).length < m.length), m[(m.takeWhile (· == c)).length] ≠ c := by
    intro m
    induction m with
    | nil => intro h; simp at h
    | cons a r ih =>
      intro h
      by_cases ha : a = c
      · have e : ((a :: r).takeWhile (· == c)) = a :: r.takeWhile (· == c) := by simp [ha]
        simp only [e, List.length_cons] at h ⊢
        simpa using ih (by omega)
      · have e : ((a :: r).takeWhile (· == c)) = [] := by simp [ha]
        simp only [e, List.length_nil] at h ⊢
        simpa using ha
  have := key (l.drop t) (by rw [List.length_drop]; omega)
  simpa using this
theorem endOf_in (l : List Int) (c : Int) (t i : Nat) (h1 : t ≤ i) (h2 : i < endOf l c t) (hi : i < l.length) : l[i] = c := by
  unfold endOf at h2
  have h3 := List.all_takeWhile (l := l.drop t) (p := (· == c))
  rw [List.all_eq_true] at h3
  have h4 : i - t < ((l.drop t).takeWhile (· == c)).length := by omega
  have h5 := h3 _ (List.getElem_mem h4)
  have h6 : ((l.drop t).takeWhile (· == c))[i - t] = (l.drop t)[i - t]'(by rw [List.length_drop]; omega) := (List.takeWhile_prefix (p := (· == c)) (l := l.drop t)).getElem h4
  rw [h6] at h5
  simp only [List.getElem_drop, show t + (i - t) = i by omega] at h5
  simpa using h5

theorem spans_cov (m : List Int) (hm : ∀ x ∈ m, 1 ≤ x ∧ x ≤ 9) : ∀ (n j : Nat) (p : Span), m.length - j ≤ n → j ≤ m.length → p.2.1 = j → (∀ h : j < m.length, m[j] ≠ p.2.2) → cov p (spansFrom m j) m.length
  | 0, j, p, hn, hj, hp, hc => by
    rw [spansFrom, dif_neg (by omega)]
    simp only [cov]
    omega
  | n + 1, j, p, hn, hj, hp, hc => by
    by_cases h : j < m.length
    · rw [spansFrom, dif_pos h]
      have h1 := endOf_le m m[j] (j + 1)
      have h2 := hm _ (List.getElem_mem h)
      refine ⟨⟨by simp only; omega, by simp only; omega, h2.1, h2.2, hc h⟩, spans_cov m hm n _ _ (by omega) (endOf_le_len m _ _ (by omega)) rfl fun h' => endOf_stop m _ _ h'⟩
    · rw [spansFrom, dif_neg h]
      simp only [cov]
      omega
theorem spans_covers (m : List Int) (hm : ∀ x ∈ m, 1 ≤ x ∧ x ≤ 9) : coversP (spansFrom m 0) m.length := by
  rw [coversP_iff]
  exact spans_cov m hm m.length 0 _ (by omega) (by omega) rfl fun h => by have := hm _ (List.getElem_mem h); simp only; omega

theorem cov_end : ∀ (l : List Span) (p : Span) (n n' : Int), cov p l n → cov p l n' → n = n'
  | [], p, n, n', h, h' => by simp only [cov] at h h'; omega
  | s :: r, p, n, n', h, h' => cov_end r s n n' h.2 h'.2
theorem cov_from : ∀ (l : List Span) (p : Span) (n n' : Int) (i : Nat) (x : Span), (h : i < l.length) → cov p l n → x.1 ≠ l[i].1 → ¬ cov p (l.set i x) n'
  | s :: r, p, n, n', 0, x, h, hc, hx, hc' => by
    simp only [List.set_cons_zero, cov] at hc'
    simp only [List.getElem_cons_zero] at hx
    have := hc.1.1
    omega
  | s :: r, p, n, n', i + 1, x, h, hc, hx, hc' => cov_from r s n n' i x (by simpa using h) hc.2 (by simpa using hx) (by simpa [cov] using hc'.2)
theorem cov_class : ∀ (l : List Span) (p : Span) (n' : Int) (i : Nat) (x : Span), i < l.length → 9 < x.2.2 → ¬ cov p (l.set i x) n'
  | s :: r, p, n', 0, x, h, hx, hc' => by
    simp only [List.set_cons_zero, cov] at hc'
    omega
  | s :: r, p, n', i + 1, x, h, hx, hc' => cov_class r s n' i x (by simpa using h) hx (by simpa [cov] using hc'.2)
theorem cov_bd : ∀ (l : List Span) (p : Span) (n : Int), cov p l n → p.2.1 ≤ n ∧ ∀ s ∈ l, p.2.1 ≤ s.1 ∧ s.1 < s.2.1 ∧ s.2.1 ≤ n ∧ 1 ≤ s.2.2 ∧ s.2.2 ≤ 9
  | [], p, n, h => ⟨by simp only [cov] at h; omega, fun s hs => by simp at hs⟩
  | s :: r, p, n, h => by
    obtain ⟨h1, h2⟩ := h
    obtain ⟨h3, h4⟩ := cov_bd r s n h2
    refine ⟨by omega, fun t ht => ?_⟩
    rcases List.mem_cons.1 ht with rfl | ht
    · omega
    · have := h4 t ht; omega

/-- How many blocks have the class. -/
def cnt1 (c : Int) (s : Span) : Int := if s.2.2 = c ∧ s.1 < s.2.1 then s.2.1 - s.1 else 0
theorem countTo_eq (l : List Span) (c : Int) (hl : l.length ≤ 1000) (hb : ∀ s ∈ l, 0 ≤ s.1 ∧ s.2.1 ≤ 1000 ∧ s.1 < s.2.1) : ∀ k, k ≤ l.length → countTo l c k = ((l.take k).map (cnt1 c)).sum ∧ 0 ≤ countTo l c k ∧ countTo l c k ≤ 1000 * k
  | 0, _ => by simp [countTo]
  | k + 1, h => by
    obtain ⟨h1, h2, h3⟩ := countTo_eq l c hl hb k (by omega)
    have hk : k < l.length := by omega
    have hgd : l.getD k (0, 0, 0) = l[k] := by simp [hk]
    have hs := hb _ (List.getElem_mem hk)
    have ht : l.take (k + 1) = l.take k ++ [l[k]] := by rw [List.take_add_one, List.getElem?_eq_getElem hk]; rfl
    rw [ht, List.map_append, List.sum_append, ← h1]
    simp only [countTo, hgd, List.map_cons, List.map_nil, List.sum_cons, List.sum_nil, Int.add_zero, cnt1]
    by_cases hc : l[k].2.2 = c ∧ l[k].1 < l[k].2.1
    · rw [if_pos hc, if_pos hc, E.wrap_i64 (n := l[k].2.1 - l[k].1) (by omega) (by omega), E.wrap_i64 (by omega) (by omega)]
      exact ⟨rfl, by omega, by omega⟩
    · rw [if_neg hc, if_neg hc]
      exact ⟨by omega, by omega, by omega⟩
theorem sum_set (f : Span → Int) : ∀ (l : List Span) (i : Nat) (x : Span), (h : i < l.length) → ((l.set i x).map f).sum = (l.map f).sum - f l[i] + f x
  | s :: r, 0, x, h => by simp; omega
  | s :: r, i + 1, x, h => by
    have := sum_set f r i x (by simpa using h)
    simp at this ⊢
    omega

theorem class_spans (m : List Int) : ∀ (n j i : Nat), m.length - j ≤ n → j ≤ i → (h : i < m.length) → classFrom (spansFrom m j) i = m[i]
  | 0, j, i, hn, hj, h => by omega
  | n + 1, j, i, hn, hj, h => by
    rw [spansFrom, dif_pos (by omega)]
    have h1 := endOf_le m (m[j]'(by omega)) (j + 1)
    by_cases hi : i < endOf m (m[j]'(by omega)) (j + 1)
    · have : m[i] = m[j]'(by omega) := by
        by_cases e : i = j
        · subst e; rfl
        · exact endOf_in m _ (j + 1) i (by omega) hi h
      simp only [classFrom]
      rw [List.find?_cons_of_pos (by simp; omega)]
      exact this.symm
    · have ih := class_spans m n (endOf m (m[j]'(by omega)) (j + 1)) i (by omega) (by omega) h
      rw [← ih]
      simp only [classFrom]
      rw [List.find?_cons_of_neg (by simp; omega)]

theorem setTo_len (L : List Span) (n : Int) : (setTo L n).length = L.length := by
  rcases List.eq_nil_or_concat L with rfl | ⟨M, s, rfl⟩
  · rfl
  · simp [setTo]
theorem refL_len (l : List Int) (k : Nat) : (refL l (k + 1)).length = (refL l k).length + if k = 0 ∨ l.getD k 0 ≠ l.getD (k - 1) 0 then 1 else 0 := by
  rw [refL_succ, setTo_len]
  split <;> simp
end Go.Proofs.Ytoofpdmdgofdcaa.L
