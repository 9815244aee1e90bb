/- Every operation, as a step; regions in the order of their text. Generic in the program; no condition. -/
import Derived.Test.YtoofpdmdgofdcaaEA
import Derived.OrdersIn
import Derived.Sort.LoopGhostIn
import Derived.RangeFuncLeaves
import Derived.RangeFuncRecord
import Derived.Scope
namespace Go.Proofs.Ytoofpdmdgofdcaa.E
open Go Go.RowKit
set_option linter.unusedVariables false
set_option linter.unusedSimpArgs false

variable {P : Program}

section
variable {G : Nat → AV} {g0 : Gh} {w0 : World} {D : List Deferred} {env : AEnv} {σ : AState} {a : Act} {w : World} {K : AEnv → AState → Prop} {Q : AX → AEnv → AState → Prop} {next : Act → World → Prop} {QQ : Exit → Act → World → Prop}

theorem exec_builtin {o : Oper} {c : Call} {b : Builtin} (ρ : Operand → Value) (ho : o.op = .call c) (hc : c.callee = .builtin b) : execOp ρ o = builtin b c.argTypes o.type (c.args.map fun | .const _ => true | _ => false) (c.args.map ρ) := by
  simp only [execOp, ho, resolve, hc]
  rfl

theorem exec_value {o : Oper} {c : Call} {x : Operand} {f : FuncId} {cap : Array Value} (ρ : Operand → Value) (ho : o.op = .call c) (hc : c.callee = .value x) (hx : ρ x = .func (.func f) #[] cap) : execOp ρ o = callFunc f (c.args.map ρ ++ cap) := by
  simp only [execOp, ho, resolve, hc, hx, Deferred.ofValue, pure_bind, invoke, Array.empty_append]

theorem exec_yield {o : Oper} {c : Call} {x : Operand} {bk : Nat} (ρ : Operand → Value) (ho : o.op = .call c) (hc : c.callee = .value x) (hx : ρ x = .func (.yield bk) #[] #[]) : execOp ρ o = Instr.yield bk (c.args.map ρ) := by
  simp only [execOp, ho, resolve, hc, hx, Deferred.ofValue, pure_bind, invoke, Array.empty_append, Array.append_empty]

theorem mapArr {xs : Array Operand} (f : Operand → Value) (l : List Operand) (h : xs = ⟨l⟩) : xs.map f = ⟨l.map f⟩ := by subst h; simp

theorem optMap {x : Option Operand} {ρ : Operand → Value} {G : Nat → AV} {g : Gh} {env : AEnv} {a : Act} (hG : GOK G g) (he : EnvOK g env a.tmps) (hρ : ρ = a.eval) : (∀ c, x.map (ev G env) = some c → ∃ u, x.map ρ = some u ∧ R g.S g.ρ c u) ∧ (x.map (ev G env) = none → x.map ρ = none) := by
  subst hρ
  cases x with
  | none => exact ⟨(fun c h => by cases h), fun _ => rfl⟩
  | some x => exact ⟨(fun c h => by cases h; exact ⟨_, rfl, R.ev hG he x⟩), (fun h => by cases h)⟩

theorem acall_sound {o : Oper} {c : Call} {g : Gh} (hx : Ext g0 w0 g w) (hs : Sim g σ w) (he : EnvOK g env a.tmps) (hG : GOK G g) (hGp : GPl G) (hd : a.defers = D) (hn : NextOK g0 w0 D K next) (hp : PanOK g0 w0 D Q QQ)
    (ho : o.op = .call c) (h : acall P G c o.type env σ o.dst K Q) : Stp P o a w next QQ := by
  unfold acall at h
  split at h <;> try exact h.elim
  · rename_i x hc
    split at h <;> try exact h.elim
    · rename_i f cap hev
      have hr := R.ev hG he x
      rw [hev] at hr
      generalize hv : a.eval x = vx at hr
      cases hr with
      | fn _ _ cvs hl hR =>
      refine stp_call (vs := c.args.map a.eval ++ cvs) hx hs he hG hd hn hp (by simp [aargs, hl]) (fun j c' v hc' hv' => ?_) h (exec_value a.eval ho hc hv)
      rcases Nat.lt_or_ge j c.args.size with hj | hj
      · rw [List.getElem?_append_left (by simpa [aargs] using hj)] at hc'
        rw [Array.getElem?_append_left (by simpa using hj)] at hv'
        obtain ⟨h1, y, rfl⟩ := mapList_R hG he c.args j c' v hc' hv'
        exact ⟨h1, Pl.ar _⟩
      · rw [List.getElem?_append_right (by simpa [aargs] using hj)] at hc'
        rw [Array.getElem?_append_right (by simpa using hj)] at hv'
        simp only [aargs, List.length_map, Array.length_toList, Array.size_map, List.getElem?_map, Option.map_eq_some_iff] at hc' hv'
        obtain ⟨c0, hc0, rfl⟩ := hc'
        exact ⟨(hR _ c0 v hc0 hv').pl, Pl.pl c0⟩
    · rename_i id hev
      have hr := R.ev hG he x
      rw [hev] at hr
      generalize hv : a.eval x = vx at hr
      cases hr with
      | yl _ bk hb =>
      exact stp_yield (vs := c.args.map a.eval) hx hs he hG hd hn hp (by simp [aargs]) (fun j c' v hc' hv' => by
        obtain ⟨h1, y, rfl⟩ := mapList_R hG he c.args j c' v hc' hv'
        exact ⟨h1, Pl.ar _⟩) hb h (exec_yield a.eval ho hc hv)
  · rename_i b hc
    have hex := exec_builtin a.eval ho hc
    split at h <;> try exact h.elim
    · split at h <;> try exact h.elim
      rename_i t x h1 h2
      refine stp_gives hx hs he hd hn (alenB_sound (ty := o.type) hs (R.ev hG he x) h) ?_
      rw [hex, h1, mapArr a.eval _ h2]
      rfl
    · split at h <;> try exact h.elim
      rename_i x r h1
      obtain ⟨c', hc', hk⟩ := h
      obtain ⟨u, h3, h4⟩ := amin_sound (P := P) (w := w) (r.map (ev G env)) (r.map a.eval) _ _ c' (by simp) (R.ev hG he x) (fun j c v h5 h6 => by
        simp only [List.getElem?_map, Option.map_eq_some_iff] at h5 h6
        obtain ⟨y, h7, rfl⟩ := h5
        obtain ⟨y', h8, rfl⟩ := h6
        rw [h7] at h8
        cases h8
        exact R.ev hG he y) hc'
      refine stp_gives (s := Builtin.min_ c.argTypes o.type (c.args.map a.eval)) hx hs he hd hn ⟨c'.pl, u, ?_, h4.pl, Pl.pl c', hk⟩ (by rw [hex]; rfl)
      rw [mapArr a.eval _ h1]
      exact h3
    · split at h <;> try exact h.elim
      rename_i x r h1
      obtain ⟨c', hc', hk⟩ := h
      obtain ⟨u, h3, h4⟩ := amax_sound (P := P) (w := w) (r.map (ev G env)) (r.map a.eval) _ _ c' (by simp) (R.ev hG he x) (fun j c v h5 h6 => by
        simp only [List.getElem?_map, Option.map_eq_some_iff] at h5 h6
        obtain ⟨y, h7, rfl⟩ := h5
        obtain ⟨y', h8, rfl⟩ := h6
        rw [h7] at h8
        cases h8
        exact R.ev hG he y) hc'
      refine stp_gives (s := Builtin.max_ c.argTypes o.type (c.args.map a.eval)) hx hs he hd hn ⟨c'.pl, u, ?_, h4.pl, Pl.pl c', hk⟩ (by rw [hex]; rfl)
      rw [mapArr a.eval _ h1]
      exact h3
    · rcases h with h | h | h
      · unfold aappend at h
        split at h <;> try exact h.elim
        rename_i t t' s x e1 e2 e3 e4
        split at h <;> try exact h.elim
        rename_i d' hd' hu'
        split at h <;> try exact h.elim
        rename_i e hu
        split at h <;> try exact h.elim
        rename_i sz by_ hsz hby
        obtain ⟨hzl, h⟩ := h
        split at h <;> try exact h.elim
        · rename_i z n cs hev
          obtain ⟨rfl, ⟨m, ds⟩, hr, ⟨q1, q2, q3, q4, q5, q6⟩, hk⟩ := h
          exact append_core (ow := .yes z) hx hs he hG hGp hd hn (by rw [hex]; rfl) e1 e2 e3 e4 hu hu' (fun k e => hd' k e) hsz hby hzl hev (.inr rfl) hr q1 q2 q3 q4 q5 hk
        · rename_i n cs hev
          obtain ⟨⟨m, ds⟩, hr, ⟨q1, q2, q3, q4, q5, q6⟩, hk⟩ := h
          exact append_core (ow := .nil) hx hs he hG hGp hd hn (by rw [hex]; rfl) e1 e2 e3 e4 hu hu' (fun k e => hd' k e) hsz hby hzl hev (.inl rfl) hr q1 q2 q3 q4 q5 hk
      · exact appendM_sound hx hs he hG hGp hd hn (by rw [hex]; rfl) h
      · exact appendZ_sound hx hs he hG hd hn (by rw [hex]; rfl) h
    · exact stp_copy hx hs he hG hd hn h (by rw [hex]; rfl)
    · split at h <;> try exact h.elim
      rename_i t x h1 h2
      refine stp_gives hx hs he hd hn (acap_sound (ty := o.type) (R.ev hG he x) h) ?_
      rw [hex, h1, mapArr a.eval _ h2]
      rfl


theorem apick_sound {g : Gh} {c x y : AV} {vc vx vy : Value} {K : AV → Prop} (hc : R g.S g.ρ c vc) (hx : R g.S g.ρ x vx) (hy : R g.S g.ρ y vy) (h : apick c x y K) : Gives P g w K (do pure (if ← asBool vc then vx else vy)) := by
  unfold apick at h
  split at h <;> try exact h.elim
  rename_i b
  cases hc
  cases b with
  | true => rw [brK_true] at h; exact ⟨x.pl, vx, by simp [asBool], hx.pl, Pl.pl x, h⟩
  | false => rw [brK_false] at h; exact ⟨y.pl, vy, by simp [asBool], hy.pl, Pl.pl y, h⟩

theorem R.pn {S : Imm} {ρ : List Nat} {c : AV} {v : Value} (h : R S ρ c v) : R S ρ (AV.pn c) v := by
  unfold AV.pn
  split
  · exact h
  · cases h with
    | tup _ vs hl h =>
      refine .tup _ _ (by simp [hl]) fun j c v hc hv => ?_
      rw [List.getElem?_map, Option.map_eq_some_iff] at hc
      obtain ⟨c0, hc0, rfl⟩ := hc
      exact (h j c0 v hc0 hv).pl
  · exact h.pl
theorem Pl.pn (c : AV) : Pl (AV.pn c) := by
  unfold AV.pn
  split
  · exact pl_mk (by simp) (by simp)
  · exact fun g i v => ⟨trivial, fun cs vs e1 e2 k c' v' h1 h2 => by
      cases e1
      rw [List.getElem?_map, Option.map_eq_some_iff] at h1
      obtain ⟨c0, hc0, rfl⟩ := h1
      exact ownOK_pl _ _ _ _⟩
  · exact Pl.pl c

theorem aop_sound {o : Oper} {rest : List Oper} {g : Gh} (hx : Ext g0 w0 g w) (hs : Sim g σ w) (he : EnvOK g env a.tmps) (hG : GOK G g) (hGp : GPl G) (hd : a.defers = D) (hn : NextOK g0 w0 D K next) (hp : PanOK g0 w0 D Q QQ)
    (h : aop P G rest o env σ K Q) : Stp P o a w next QQ := by
  have hex : execOp a.eval o = execOp a.eval o := rfl
  unfold aop at h
  split at h <;> try exact h.elim
  case h_1 x ho => exact stp_take hx hs he hG hGp hd hn h (by simp only [execOp, ho])
  case h_2 x ho =>
    split at h
    · exact stp_take hx hs he hG hGp hd hn h (by simp only [execOp, ho])
    · refine stp_value (w' := w) (v := a.eval x) (by simp only [execOp, ho, Sem.run_pure]) (hn _ _ _ _ h ⟨by rw [put_defers]; exact hd, g, hx, hs, he.put' o.dst (R.pn (R.ev hG he x)) (fun i _ => Pl.pn _ g i _) a rfl⟩)
  case h_3 t x ho =>
    split at h
    · exact stp_loadTake hx hs he hG hd hn h (by simp only [execOp, ho])
    · have hr := R.ev hG he x
      have hp' : ∃ bk off, a.eval x = .pointer (some ⟨bk, off, none⟩) := by
        unfold aload at h
        split at h <;> try exact h.elim
        split at h
        · split at h <;> try exact h.elim
          rename_i n hn'
          obtain ⟨hn0, cs, hcs, _⟩ := h
          cases n with
          | zero => exact absurd rfl hn0
          | succ n => exact ptr_of hr (.inr ⟨n, cs, hcs⟩)
        · obtain ⟨c, hc, _⟩ := h
          exact ptr_of hr (.inl ⟨c, hc⟩)
      exact stp_gives hx hs he hd hn (aload_sound hs hr hp' h) (by simp only [execOp, ho])
  case h_4 t ho =>
    split at h <;> try exact h.elim
    rename_i cs hz
    exact stp_alloc hx hs he hd hn hz h (by simp only [execOp, ho])
  case h_5 t x ho => exact stp_box (t := t) hx hs he hG hGp hd hn h (by simp only [execOp, ho])
  case h_6 t parts ho => exact stp_gives hx hs he hd hn (abuild_sound hs he hG h) (by simp only [execOp, ho])
  case h_7 t len parts ho => exact stp_buildSlice hx hs he hG hd hn h (by simp only [execOp, ho])
  case h_8 t p x ho =>
    split at h <;> try exact h.elim
    rename_i hdst
    exact stp_store hx hs he hG hGp hd hn h hdst (by simp only [execOp, ho])
  case h_9 x ho =>
    have hr := R.ev hG he x
    unfold anil at h
    have fin : ∀ c, R g.S g.ρ c (a.eval x) → Pl c → Kv K env σ o.dst c → (execOp a.eval o).run P w = .ok (.value (a.eval x)) w → Stp P o a w next QQ := fun c h1 h2 h3 h4 =>
      stp_value h4 (hn _ _ _ _ h3 ⟨by rw [put_defers]; exact hd, g, hx, hs, he.put' o.dst h1 (fun i _ => h2 g i _) a rfl⟩)
    split at h <;> try exact h.elim
    · rename_i cs k hev
      rw [hev] at hr
      refine fin _ hr (pl_mk (by simp) (by simp)) h ?_
      generalize hv : a.eval x = vx at hr
      cases hr
      simp only [execOp, ho, hv, Sem.run_pure]
    · rename_i id off hev
      rw [hev] at hr
      refine fin _ hr (pl_mk (by simp) (by simp)) h ?_
      generalize hv : a.eval x = vx at hr
      cases hr
      simp only [execOp, ho, hv, Sem.run_pure]
    · rename_i f cs hev
      rw [hev] at hr
      refine fin _ hr (pl_mk (by simp) (by simp)) h ?_
      generalize hv : a.eval x = vx at hr
      cases hr
      simp only [execOp, ho, hv, Sem.run_pure]
  case h_10 op t x y yt ho => exact stp_gives hx hs he hd hn (abin_sound (ox := x) (oy := y) (R.ev hG he x) (R.ev hG he y) h) (by simp only [execOp, ho])
  case h_11 op t x ho => exact stp_gives hx hs he hd hn (aun_sound (R.ev hG he x) h) (by simp only [execOp, ho])
  case h_12 src dst x ho => exact stp_bytes hx hs he hG hd hn h (by simp only [execOp, ho])
  case h_13 t x ho => exact stp_gives hx hs he hd hn (amakeIf_sound (R.ev hG he x) h) (by simp only [execOp, ho])
  case h_14 f first cap ho =>
    split at h <;> try exact h.elim
    rename_i f'
    refine stp_gives (s := Instr.makeFunc (.func f') #[] (cap.map a.eval)) hx hs he hd hn ⟨_, .func (.func f') #[] (cap.map a.eval), rfl, .fn f' _ _ (by simp) (fun j c v hc hv => (mapList_R hG he cap j c v hc hv).1), pl_mk (by simp) (by simp), h⟩ (by simp [execOp, ho])
  case h_15 t l c ho => exact stp_make hx hs he hG hd hn h (by simp only [execOp, ho])
  case h_16 t x lo hi mx ho =>
    obtain ⟨a1, a2⟩ := optMap (x := lo) hG he rfl
    obtain ⟨b1, b2⟩ := optMap (x := hi) hG he rfl
    obtain ⟨c1, c2⟩ := optMap (x := mx) hG he rfl
    exact stp_gives hx hs he hd hn (aslice_sound (R.ev hG he x) a1 a2 b1 b2 c2 h) (by simp only [execOp, ho])
  case h_17 s x f ho => exact stp_gives hx hs he hd hn (afieldAddr_sound (R.ev hG he x) h) (by simp only [execOp, ho])
  case h_18 t x f ho => exact stp_gives hx hs he hd hn (afield_sound (R.ev hG he x) h) (by simp only [execOp, ho])
  case h_19 t x i ho => exact stp_gives hx hs he hd hn (aidx_sound (R.ev hG he x) (R.ev hG he i) h) (by simp only [execOp, ho])
  case h_20 t x i ho => exact stp_gives hx hs he hd hn (aindex_sound (R.ev hG he x) (R.ev hG he i) h) (by simp only [execOp, ho])
  case h_21 x i ho => exact stp_extract hx hs he hd hn h (by simp only [execOp, ho])
  case h_22 x xt t ok ho => exact stp_gives hx hs he hd hn (atypeAssert_sound (xt := xt) (R.ev hG he x) h) (by simp only [execOp, ho])
  case h_23 c ho => exact acall_sound hx hs he hG hGp hd hn hp ho h
  case h_24 x ho =>
    have hr := R.ev hG he x
    split at h <;> try exact h.elim
    rename_i t y hev
    rw [hev] at hr
    generalize hv : a.eval x = vx at hr
    cases hr with
    | ifc _ _ v hv' =>
    intro r n
    have : (execOp a.eval o).run P w = .halt (.panic (.iface t v)) w := by
      simp only [execOp, ho, hv, Instr.panic, goPanic, Sem.run_bind, Sem.run_halt, Result.andThen_halt]
    rw [this]
    exact hp _ env σ a w _ g h hd hx hs (.ifc t y v hv')
  case h_25 c x y ho => exact stp_gives hx hs he hd hn (apick_sound (R.ev hG he c) (R.ev hG he x) (R.ev hG he y) h) (by simp only [execOp, ho, bind_assoc, pure_bind])
  case h_26 t r ho =>
    split at h <;> try exact h.elim
    exact stp_makeMap (t := t) hx hs he hd hn h (by simp only [execOp, ho, Option.map_none])
  case h_27 t m k x ho =>
    split at h <;> try exact h.elim
    rename_i hdst
    exact stp_mapUpdate hx hs he hG hd hn h hdst (by simp only [execOp, ho])
  case h_28 t m k ok ho => exact stp_gives hx hs he hd hn (alookup_sound hs (R.ev hG he m) (R.ev hG he k) h) (by simp only [execOp, ho])
  case h_29 t x ho => exact stp_range hx hs he hG hd hn h (by simp only [execOp, ho])
  case h_30 x isStr ho => exact stp_mapNext (ty := o.type) hx hs he hG hd hn h (by simp only [execOp, ho])
  case h_31 x ho => exact stp_entry hx hs he hG hd hn h (by simp only [execOp, ho])

theorem gval_sound {ops : List Oper} {o : Oper} {g : Gh} {b : Bool} (he : EnvOK g env a.tmps) (h : gval ops env o = some b) : Region.wanted o (yielded ops.toArray a.tmps) = b := by
  unfold gval at h
  unfold Region.wanted
  split at h
  · rename_i hg
    cases h
    rw [hg]
  · rename_i j want hg
    rw [hg]
    simp only
    split at h <;> try (cases h; done)
    rename_i oj hoj
    split at h <;> try (cases h; done)
    rename_i t ht
    have hy : ∀ v : Value, a.tmps[t]? = some v → yielded ops.toArray a.tmps j = (match some v with | some (.bool b) => some b | _ => none) := fun v hv => by
      unfold yielded
      simp only [List.getElem?_toArray, hoj, Option.bind_some, ht, hv]
      cases v <;> rfl
    have hsz : ∀ c, env[t]? = some c → ∃ v, a.tmps[t]? = some v ∧ R g.S g.ρ c v := fun c hc => by
      have hlt : t < a.tmps.size := by rw [he.1]; exact (List.getElem?_eq_some_iff.1 hc).1
      exact ⟨a.tmps[t], Array.getElem?_eq_getElem hlt, (he.2 t c _ hc (Array.getElem?_eq_getElem hlt)).1⟩
    split at h
    · rename_i x hx
      cases h
      obtain ⟨v, h1, h2⟩ := hsz _ hx
      cases h2
      rw [hy _ h1]
      cases x <;> cases want <;> rfl
    · rename_i hx
      cases h
      obtain ⟨v, h1, h2⟩ := hsz _ hx
      cases h2
      rw [hy _ h1]
      rfl
    · cases h


/-- How a piece of code is left. -/
def QInv (g0 : Gh) (w0 : World) (D : List Deferred) (Q : AX → AEnv → AState → Prop) : Exit → Act → World → Prop
  | .normal, a, w => ∃ env σ, Q .normal env σ ∧ Inv g0 w0 D env σ a w
  | .exit id, a, w => ∃ env σ, Q (.exit id) env σ ∧ Inv g0 w0 D env σ a w
  | .goto l, a, w => ∃ env σ, Q (.goto l) env σ ∧ Inv g0 w0 D env σ a w
  | .ret, a, w => ∃ env σ, Q .ret env σ ∧ Inv g0 w0 D env σ a w
  | .panic ch, a, w => ∃ x v env σ g, ch = [{ v, recovered := false }] ∧ Q (.panic x) env σ ∧ a.defers = D ∧ Ext g0 w0 g w ∧ Sim g σ w ∧ R g.S g.ρ x v
  | .outgrown, _, _ => False

theorem QInv.pan : PanOK g0 w0 D Q (QInv g0 w0 D Q) := fun x env σ a w v g h1 h2 h3 h4 h5 => ⟨x, v, env, σ, g, rfl, h1, h2, h3, h4, h5⟩

theorem stp_wpIn {o : Oper} {r : Option Nat} {n : Nat} (h : Stp P o a w next QQ) (ho : ∀ c, o.op ≠ .defer c) : o.wpIn (FW r) n P a w next QQ :=
  ⟨fun _ _ => trivial, by rw [Oper.semAt_eq _ _ _ ho]; exact h r n⟩

theorem aop_defer {o : Oper} {rest : List Oper} (h : aop P G rest o env σ K Q) : ∀ c, o.op ≠ .defer c := fun c e => by
  unfold aop at h
  rw [e] at h
  exact h

/-- The operations of a region, in the order of its text. -/
theorem awOps_sound (hG : GOK G g0) (hGp : GPl G) {ops : List Oper} {r : Option Nat} {n : Nat} : ∀ (l : List Oper) (k : Nat) (env : AEnv) (σ : AState) (a : Act) (w : World), (∀ j : Nat, l[j]? = ops[k + j]?) → awOps P G ops Q l env σ → Inv g0 w0 D env σ a w →
    wpOpsIn (FW r) n P ops.toArray (QInv g0 w0 D Q) (List.range' k l.length) a w
  | [], k, env, σ, a, w, _, h, hi => ⟨env, σ, h, hi⟩
  | o :: rest, k, env, σ, a, w, hl, h, hi => by
    obtain ⟨hd, g, hx, hs, he⟩ := hi
    have h0 : ops[k]? = some o := by simpa using (hl 0).symm
    have hl' : ∀ j : Nat, rest[j]? = ops[k + 1 + j]? := fun j => by rw [show k + 1 + j = k + (j + 1) by omega]; exact hl (j + 1)
    simp only [awOps] at h
    simp only [List.length_cons, List.range'_succ, wpOpsIn, List.getElem?_toArray, h0]
    split at h <;> try exact h.elim
    rename_i b hb
    have hw := gval_sound he hb
    rw [hw]
    cases b with
    | true =>
      rw [brK_true] at h
      simp only [if_true]
      refine stp_wpIn (aop_sound hx hs he (hG.ext hx) hGp hd (next := wpOpsIn (FW r) n P ops.toArray (QInv g0 w0 D Q) (List.range' (k + 1) rest.length)) (fun env' σ' a' w' hk hi' => awOps_sound hG hGp rest (k + 1) env' σ' a' w' hl' hk hi') QInv.pan h) (aop_defer h)
    | false =>
      rw [brK_false] at h
      simp only [Bool.false_eq_true, if_false]
      refine ⟨fun _ _ => trivial, awOps_sound hG hGp rest (k + 1) _ _ _ _ hl' h ⟨by rw [put_defers]; exact hd, g, hx, hs, ?_⟩⟩
      exact he.put' o.dst (.tup [] #[] rfl (fun j c v h => by simp at h)) (fun i _ => ⟨trivial, fun cs vs e1 e2 k c' v' h1 h2 => by cases e1; simp at h1⟩) a rfl

end
end Go.Proofs.Ytoofpdmdgofdcaa.E

namespace Go.Proofs.Ytoofpdmdgofdcaa.E
open Go Go.RowKit
set_option linter.unusedVariables false
set_option linter.unusedSimpArgs false

variable {P : Program}

def Kc (KV : AV → AState → Prop) (σ : AState) (c : AV) : Prop := KV c σ

def boxV (G : Nat → AV) (env : AEnv) (σ : AState) (x : Operand) (KV : AV → AState → Prop) : Prop :=
  match ev G env x with
  | .agg cs => KV (.pm σ.length 0) (σ ++ [.cells (cs.map AV.st)])
  | c => one c = true ∧ KV (.pm σ.length 0) (σ ++ [.cells [c.st]])

def storeV (P : Program) (G : Nat → AV) (env : AEnv) (σ : AState) (t : TypeId) (a x : Operand) (KV : AV → AState → Prop) : Prop :=
  match ev G env a with
  | .pm id off => match σ[id]? with
    | some (.cells cs) => match ev G env x with
      | .agg vs => tsize P t = some vs.length ∧ vs.all one = true ∧ off + vs.length ≤ cs.length ∧ KV (.tup []) (σ.set id (.cells (setN cs off (vs.map AV.st))))
      | c => one c = true ∧ tsize P t = some 1 ∧ off < cs.length ∧ KV (.tup []) (σ.set id (.cells (cs.set off c.st)))
    | _ => False
  | _ => False

def extractV (G : Nat → AV) (env : AEnv) (x : Operand) (i : Nat) (K : AV → Prop) : Prop :=
  match ev G env x with
  | .tup cs => optK cs[i]? (plK K)
  | _ => False

def callV (KV : AV → AState → Prop) : ARes → AState → Prop
  | .ret r, σ => KV r σ
  | .pan _, _ => False

def acallV (P : Program) (G : Nat → AV) (c : Call) (env : AEnv) (σ : AState) (KV : AV → AState → Prop) : Prop :=
  match c.callee with
  | .value f => match ev G env f with
    | .fn f cap => ACalls P G f (aargs G env c.args ++ cap.map AV.pl) σ (callV KV)
    | .yl id => YCalls P G id (aargs G env c.args) σ (callV KV)
    | _ => False
  | .builtin b => match b with
    | .len => match c.argTypes, c.args with
      | ⟨[t]⟩, ⟨[x]⟩ => alenB P σ t (ev G env x) (Kc KV σ)
      | _, _ => False
    | .min => match c.args with
      | ⟨x :: r⟩ => optK (afold amin2 (ev G env x) (r.map (ev G env))) (plK (Kc KV σ))
      | _ => False
    | .max => match c.args with
      | ⟨x :: r⟩ => optK (afold amax2 (ev G env x) (r.map (ev G env))) (plK (Kc KV σ))
      | _ => False
    | _ => False
  | _ => False

/-- The operation gives a value, and leaves a state. -/
def aopV (P : Program) (G : Nat → AV) (o : Oper) (env : AEnv) (σ : AState) (KV : AV → AState → Prop) : Prop :=
  match o.op with
  | .assign x => KV (ev G env x).pl σ
  | .move x => KV (AV.pn (ev G env x)) σ
  | .load t a => aload P σ t (ev G env a) (Kc KV σ)
  | .alloc t => match tzero P t with
    | some cs => KV (.pm σ.length 0) (σ ++ [.cells cs])
    | none => False
  | .box t x => boxV G env σ x KV
  | .build t parts => abuild P G env t parts.toList (Kc KV σ)
  | .buildSlice t len parts => abuildSlice P G env t len parts.toList (Kc KV σ)
  | .store t a x => match o.dst with
    | none => storeV P G env σ t a x KV
    | some _ => False
  | .nilCheck x => anil (ev G env x) (Kc KV σ)
  | .binOp op t x y _ => abin P op t (ev G env x) (ev G env y) (Kc KV σ)
  | .unOp op _ x => aun op (ev G env x) (Kc KV σ)
  | .convert src dst x => abytes P src dst (ev G env x) (Kc KV σ)
  | .makeInterface t x => amakeIf P t (ev G env x) (Kc KV σ)
  | .makeFunc f first cap => match f, first with
    | .func f, ⟨[]⟩ => Kc KV σ (.fn f (cap.toList.map fun x => (ev G env x).ar))
    | _, _ => False
  | .makeSlice t l c => amake P σ t (ev G env l) (ev G env c) KV
  | .slice t x lo hi mx => aslice P t (ev G env x) (lo.map (ev G env)) (hi.map (ev G env)) (mx.map (ev G env)) (Kc KV σ)
  | .fieldAddr s x f => afieldAddr P s (ev G env x) f (Kc KV σ)
  | .field t x f => afield P t (ev G env x) f (Kc KV σ)
  | .indexAddr t x i => aidx P t (ev G env x) (ev G env i) (Kc KV σ)
  | .index t x i => aindex P t (ev G env x) (ev G env i) (Kc KV σ)
  | .extract x i => extractV G env x i (Kc KV σ)
  | .typeAssert x _ t ok => atypeAssert P (ev G env x) t ok (Kc KV σ)
  | .call c => acallV P G c env σ KV
  | .pick c x y => apick (ev G env c) (ev G env x) (ev G env y) (Kc KV σ)
  | _ => False

section
variable {G : Nat → AV} {g0 : Gh} {w0 : World} {D : List Deferred} {env : AEnv} {σ : AState} {a : Act} {w : World} {KV : AV → AState → Prop} {next : Act → World → Prop} {QQ : Exit → Act → World → Prop}

/-- What follows. -/
def NextV (g0 : Gh) (w0 : World) (D : List Deferred) (env : AEnv) (d : Option Tmp) (KV : AV → AState → Prop) (next : Act → World → Prop) : Prop := ∀ c σ a w, KV c σ → Inv g0 w0 D (aput env d c) σ a w → next a w

/-- A value and a state, as an environment and a state. -/
def KE (env : AEnv) (d : Option Tmp) (KV : AV → AState → Prop) (env' : AEnv) (σ' : AState) : Prop := ∃ c, env' = aput env d c ∧ KV c σ'

theorem NextV.ok {d : Option Tmp} (h : NextV g0 w0 D env d KV next) : NextOK g0 w0 D (KE env d KV) next := fun env' σ a w ⟨c, h1, h2⟩ hi => h c σ a w h2 (h1 ▸ hi)

theorem Kc_le {d : Option Tmp} : ∀ c, Kc KV σ c → Kv (KE env d KV) env σ d c := fun c h => ⟨c, rfl, h⟩

theorem Gives.mono {g : Gh} {K K' : AV → Prop} {s : Sem Value} (h : Gives P g w K s) (hk : ∀ c, K c → K' c) : Gives P g w K' s := by
  obtain ⟨c, v, h1, h2, h3, h4⟩ := h
  exact ⟨c, v, h1, h2, h3, hk c h4⟩

theorem stpV_gives {o : Oper} {g : Gh} {s : Sem Value} (hx : Ext g0 w0 g w) (hs : Sim g σ w) (he : EnvOK g env a.tmps) (hd : a.defers = D) (hn : NextV g0 w0 D env o.dst KV next) (hg : Gives P g w (Kc KV σ) s)
    (ho : execOp a.eval o = (do pure (.value (← s)))) : Stp P o a w next QQ := stp_gives hx hs he hd hn.ok (hg.mono Kc_le) ho

theorem next1_mono {Rr Rr' : Ending → World → Prop} {s : Result Next} (hk : ∀ e w, Rr e w → Rr' e w) (h : Next1 P Rr s) : Next1 P Rr' s := by
  cases s with
  | halt x w' => exact h.elim
  | ok nx w' =>
    cases nx with
    | value v => exact hk (.returned v) w' h
    | enter f' args' => exact Calls.mono h hk
    | row row args' => exact Rows.mono h fun v w'' => hk _ _
    | round l f tmps assign body => exact fun r n => RoundIn.mono (h r n) hk
    | _ => exact h.elim

theorem callV_callK (g : Gh) (w : World) {d : Option Tmp} : ∀ e w', PostA g w (callV KV) e w' → PostA g w (callK (KE env d KV) (fun _ _ _ => False) env d) e w' := fun e w' hp => by
  cases e with
  | returned v =>
    obtain ⟨r, σ', g', k1, k2⟩ := hp
    exact ⟨r, σ', g', ⟨r, rfl, k1⟩, k2⟩
  | panicked ch =>
    obtain ⟨x, v, σ', g', k0, k1, k2⟩ := hp
    exact k1.elim
  | outgrown => exact hp

theorem alenB_mono {P : Program} {σ : AState} {t : TypeId} {x : AV} {K K' : AV → Prop} (hk : ∀ c, K c → K' c) (h : alenB P σ t x K) : alenB P σ t x K' := by
  unfold alenB at *
  (repeat' split at h) <;> first | exact h.elim | skip
  all_goals simp_all

theorem acallV_call {c : Call} {o : Oper} (h : acallV P G c env σ KV) : acall P G c o.type env σ o.dst (KE env o.dst KV) (fun _ _ _ => False) := by
  unfold acallV at h
  unfold acall
  split at h <;> try exact h.elim
  · rename_i x hc
    simp only [hc]
    split at h <;> try exact h.elim
    · rename_i f cap hev
      simp only [hev]
      intro g w vs h1 h2 h3 h4 h5
      exact next1_mono (callV_callK g w) (h g w vs h1 h2 h3 h4 h5)
    · rename_i id hev
      simp only [hev]
      intro g w vs bk h1 h2 h3 h4 h5 h6
      exact next1_mono (callV_callK g w) (h g w vs bk h1 h2 h3 h4 h5 h6)
  · rename_i b hc
    simp only [hc]
    split at h <;> try exact h.elim
    · split at h <;> try exact h.elim
      rename_i t x e1 e2
      simp only [e1, e2]
      refine alenB_mono ?_ h
      exact Kc_le
    · split at h <;> try exact h.elim
      rename_i x r e1
      simp only [e1]
      obtain ⟨z, h1, h2⟩ := h
      exact ⟨z, h1, _, rfl, h2⟩
    · split at h <;> try exact h.elim
      rename_i x r e1
      simp only [e1]
      obtain ⟨z, h1, h2⟩ := h
      exact ⟨z, h1, _, rfl, h2⟩

end
end Go.Proofs.Ytoofpdmdgofdcaa.E

namespace Go.Proofs.Ytoofpdmdgofdcaa.E
open Go Go.RowKit
set_option linter.unusedVariables false
set_option linter.unusedSimpArgs false

variable {P : Program}

section
variable {G : Nat → AV} {g0 : Gh} {w0 : World} {D : List Deferred} {env : AEnv} {σ : AState} {a : Act} {w : World} {KV : AV → AState → Prop} {next : Act → World → Prop} {QQ : Exit → Act → World → Prop}

theorem stpV_plain {o : Oper} {g : Gh} {c : AV} {v : Value} (hx : Ext g0 w0 g w) (hs : Sim g σ w) (he : EnvOK g env a.tmps) (hd : a.defers = D) (hn : NextV g0 w0 D env o.dst KV next)
    (hc : R g.S g.ρ c v) (hp : Pl c) (h : KV c σ) (ho : (execOp a.eval o).run P w = .ok (.value v) w) : Stp P o a w next QQ :=
  stp_value ho (hn _ _ _ _ h ⟨by rw [put_defers]; exact hd, g, hx, hs, he.put' o.dst hc (fun i _ => hp _ i v) a rfl⟩)

theorem stpV_box {o : Oper} {g : Gh} {t : TypeId} {x : Operand} (hx : Ext g0 w0 g w) (hs : Sim g σ w) (he : EnvOK g env a.tmps) (hG : GOK G g) (hd : a.defers = D) (hn : NextV g0 w0 D env o.dst KV next)
    (h : boxV G env σ x KV) (ho : execOp a.eval o = (do pure (.value (← Instr.box t (a.eval x))))) : Stp P o a w next QQ := by
  have hr := R.ev hG he x
  have hrun : (execOp a.eval o).run P w = .ok (.value (.pointer (some ⟨w.heap.size, 0, none⟩))) (w.alloc (.cells (a.eval x).cells t)) := by
    rw [ho]
    simp only [Instr.box, Sem.run_bind, newVar, newRow, Result.andThen_ok, run_newObj, Sem.run_pure]
    rfl
  unfold boxV at h
  split at h
  · rename_i cs hev
    rw [hev] at hr
    generalize hv : a.eval x = v at hr hrun
    cases hr with
    | agg _ vs hl hR =>
      refine stp_obj (K := KE env o.dst KV) hx hs he hd hn.ok (cs.map AV.st) vs t (by simp [hl]) (fun j c v hc hv => ?_) (.pm _ _ _ ?_) (pl_mk (by simp) (by simp)) ⟨_, rfl, h⟩ hrun
      · simp only [List.getElem?_map, Option.map_eq_some_iff] at hc
        obtain ⟨c0, hc0, rfl⟩ := hc
        exact ⟨(hR j c0 v hc0 hv).st, ownOK_st _ _ _ _⟩
      · rw [← hs.len]; simp
  · rename_i hna
    obtain ⟨h1, hk⟩ := h
    obtain ⟨h2, h3⟩ := one_cell hr h1
    rw [h3] at hrun
    refine stp_obj (K := KE env o.dst KV) hx hs he hd hn.ok [(ev G env x).st] #[a.eval x] t rfl (fun j c v hc hv => ?_) (.pm _ _ _ ?_) (pl_mk (by simp) (by simp)) ⟨_, rfl, hk⟩ hrun
    · cases j with
      | zero =>
        simp at hc hv
        subst hc
        subst hv
        exact ⟨hr.st, ownOK_st _ _ _ _⟩
      | succ j => simp at hc
    · rw [← hs.len]; simp

theorem one_st {c : AV} (h : one c = true) : one c.st = true := by
  cases c with
  | sl o n cs => cases o <;> rfl
  | tup _ => simp [one] at h
  | _ => exact h

theorem stpV_store {o : Oper} {g : Gh} {t : TypeId} {p x : Operand} (hx : Ext g0 w0 g w) (hs : Sim g σ w) (he : EnvOK g env a.tmps) (hG : GOK G g) (hd : a.defers = D) (hn : NextV g0 w0 D env o.dst KV next)
    (h : storeV P G env σ t p x KV) (hdst : o.dst = none) (ho : execOp a.eval o = (do Instr.storeAt t (a.eval p) (a.eval x); pure .skip)) : Stp P o a w next QQ := by
  have hr := R.ev hG he x
  have hp := R.ev hG he p
  unfold storeV at h
  split at h <;> try exact h.elim
  rename_i id off hpe
  rw [hpe] at hp
  generalize hpv : a.eval p = pv at hp ho
  cases hp with
  | pm _ _ bk hb =>
  split at h <;> try exact h.elim
  rename_i cur hobj
  split at h
  · rename_i vs hev
    obtain ⟨h1, h2, h3, hk⟩ := h
    rw [hev] at hr
    generalize hv : a.eval x = v at hr ho
    cases hr with
    | agg _ us hl hR =>
      obtain ⟨w', r1, r2, r3⟩ := storeCells_sim (P := P) hb (vs.map AV.st) us.toList 0 off σ w cur hs hobj (by simpa using h3) (by simp [hl]) (fun j c v hc hv => by
        simp only [List.getElem?_map, Option.map_eq_some_iff] at hc
        obtain ⟨c0, hc0, rfl⟩ := hc
        have hv' : us[j]? = some v := by simpa using hv
        have ho1 : one c0 = true := by
          rw [List.all_eq_true] at h2
          exact h2 c0 (List.mem_of_getElem? hc0)
        exact ⟨(hR j c0 v hc0 hv').st, ownOK_st _ _ _ _, (one_cell (hR j c0 v hc0 hv') ho1).1⟩)
      have hrun : (execOp a.eval o).run P w = .ok .skip w' := by
        rw [ho]
        simp only [Instr.storeAt, Instr.sureAddr, Sem.run_bind, Sem.run_pure, Result.andThen_ok, storeVar, run_size h1, cells_agg, hl, ne_eq, not_true_eq_false, if_false, r1]
      refine stp_skip hrun (hn _ _ _ _ hk ⟨by rw [put_defers]; exact hd, g, hx.trans r3, r2, ?_⟩)
      rw [hdst]
      exact he
  · obtain ⟨h1, h2, h3, hk⟩ := h
    obtain ⟨k1, k2⟩ := one_cell hr h1
    obtain ⟨w', r1, r2, r3⟩ := storeCells_sim (P := P) (g := g) (id := id) (bk := bk) hb [(ev G env x).st] [a.eval x] 0 off σ w cur hs hobj (by simp; omega) rfl (fun j c v hc hv => by
      cases j with
      | zero =>
        simp at hc hv
        subst hc
        subst hv
        exact ⟨hr.st, ownOK_st _ _ _ _, k1⟩
      | succ j => simp at hc)
    have hrun : (execOp a.eval o).run P w = .ok .skip w' := by
      rw [ho]
      simp only [Instr.storeAt, Instr.sureAddr, Sem.run_bind, Sem.run_pure, Result.andThen_ok, storeVar, run_size h2, k2, List.size_toArray, List.length_cons, List.length_nil, Nat.zero_add, ne_eq, not_true_eq_false, if_false, r1]
    refine stp_skip hrun (hn _ _ _ _ hk ⟨by rw [put_defers]; exact hd, g, hx.trans r3, by simpa [setN] using r2, ?_⟩)
    rw [hdst]
    exact he

theorem KE_kv {env : AEnv} {σ : AState} {d : Option Tmp} : (fun c => Kc KV σ c) = Kc KV σ := rfl

theorem noPan : PanOK g0 w0 D (fun _ _ _ => False) QQ := fun _ _ _ _ _ _ _ h => h.elim

theorem amake_mono {σ : AState} {t : TypeId} {l c : AV} {K K' : AV → AState → Prop} (hk : ∀ c σ, K c σ → K' c σ) (h : amake P σ t l c K) : amake P σ t l c K' := by
  unfold amake at *
  (repeat' split at h) <;> first | exact h.elim | skip
  obtain ⟨h1, h2, h3, h4⟩ := h
  exact ⟨h1, h2, h3, hk _ _ h4⟩

theorem abuildSlice_mono {env : AEnv} {t : TypeId} {n : Nat} {ps : List (Nat × Operand)} {K K' : AV → Prop} (hk : ∀ c, K c → K' c) (h : abuildSlice P G env t n ps K) : abuildSlice P G env t n ps K' := by
  unfold abuildSlice at *
  (repeat' split at h) <;> first | exact h.elim | skip
  obtain ⟨h1, h2, c, h3, h4⟩ := h
  exact ⟨h1, h2, c, h3, hk _ h4⟩

theorem acnv_mono {src dst : TypeId} {x : AV} {K K' : AV → Prop} (hk : ∀ c, K c → K' c) (h : acnv P src dst x K) : acnv P src dst x K' := by
  unfold acnv at *
  (repeat' split at h) <;> first | exact h.elim | skip
  all_goals first | exact hk _ h | exact ⟨h.1, hk _ h.2⟩ | (obtain ⟨c, h3, h4⟩ := h; exact ⟨c, h3, hk _ h4⟩) | (obtain ⟨h1, h2, c, h3, h4, h5⟩ := h; exact ⟨h1, h2, c, h3, h4, hk _ h5⟩) | (obtain ⟨h1, c, h3, h4⟩ := h; exact ⟨h1, c, h3, hk _ h4⟩) | (simp_all; done)

theorem abytes_mono {src dst : TypeId} {x : AV} {K K' : AV → Prop} (hk : ∀ c, K c → K' c) (h : abytes P src dst x K) : abytes P src dst x K' := by
  unfold abytes at *
  split at h
  · split at h <;> try exact h.elim
    obtain ⟨h1, h2, h3⟩ := h
    exact ⟨h1, h2, hk _ h3⟩
  · exact acnv_mono hk h

theorem aopV_sound {o : Oper} {g : Gh} (hx : Ext g0 w0 g w) (hs : Sim g σ w) (he : EnvOK g env a.tmps) (hG : GOK G g) (hGp : GPl G) (hd : a.defers = D) (hn : NextV g0 w0 D env o.dst KV next)
    (h : aopV P G o env σ KV) : Stp P o a w next QQ := by
  unfold aopV at h
  split at h <;> try exact h.elim
  case h_1 x ho => exact stpV_plain hx hs he hd hn (R.ev hG he x).pl (Pl.pl _) h (by simp only [execOp, ho, Sem.run_pure])
  case h_2 x ho => exact stpV_plain hx hs he hd hn (R.pn (R.ev hG he x)) (Pl.pn _) h (by simp only [execOp, ho, Sem.run_pure])
  case h_3 t x ho =>
    have hr := R.ev hG he x
    have hp' : ∃ bk off, a.eval x = .pointer (some ⟨bk, off, none⟩) := by
      unfold aload at h
      split at h <;> try exact h.elim
      split at h
      · split at h <;> try exact h.elim
        rename_i n hn'
        obtain ⟨hn0, cs, hcs, _⟩ := h
        cases n with
        | zero => exact absurd rfl hn0
        | succ n => exact ptr_of hr (.inr ⟨n, cs, hcs⟩)
      · obtain ⟨c, hc, _⟩ := h
        exact ptr_of hr (.inl ⟨c, hc⟩)
    exact stpV_gives hx hs he hd hn (aload_sound hs hr hp' h) (by simp only [execOp, ho])
  case h_4 t ho =>
    split at h <;> try exact h.elim
    rename_i cs hz
    exact stp_alloc (K := KE env o.dst KV) hx hs he hd hn.ok hz ⟨_, rfl, h⟩ (by simp only [execOp, ho])
  case h_5 t x ho => exact stpV_box (t := t) hx hs he hG hd hn h (by simp only [execOp, ho])
  case h_6 t parts ho => exact stpV_gives hx hs he hd hn (abuild_sound hs he hG h) (by simp only [execOp, ho])
  case h_7 t len parts ho => exact stp_buildSlice (K := KE env o.dst KV) hx hs he hG hd hn.ok (abuildSlice_mono Kc_le h) (by simp only [execOp, ho])
  case h_8 t p x ho =>
    split at h <;> try exact h.elim
    rename_i hdst
    exact stpV_store hx hs he hG hd hn h hdst (by simp only [execOp, ho])
  case h_9 x ho =>
    have hr := R.ev hG he x
    unfold anil at h
    split at h <;> try exact h.elim
    all_goals
      rename_i hev
      rw [hev] at hr
      refine stpV_plain hx hs he hd hn hr (pl_mk (by simp) (by simp)) h ?_
      generalize hv : a.eval x = vx at hr
      cases hr
      simp only [execOp, ho, hv, Sem.run_pure]
  case h_10 op t x y yt ho => exact stpV_gives hx hs he hd hn (abin_sound (ox := x) (oy := y) (R.ev hG he x) (R.ev hG he y) h) (by simp only [execOp, ho])
  case h_11 op t x ho => exact stpV_gives hx hs he hd hn (aun_sound (R.ev hG he x) h) (by simp only [execOp, ho])
  case h_12 src dst x ho => exact stp_bytes (K := KE env o.dst KV) hx hs he hG hd hn.ok (abytes_mono Kc_le h) (by simp only [execOp, ho])
  case h_13 t x ho => exact stpV_gives hx hs he hd hn (amakeIf_sound (R.ev hG he x) h) (by simp only [execOp, ho])
  case h_14 f first cap ho =>
    split at h <;> try exact h.elim
    rename_i f'
    refine stpV_gives (s := Instr.makeFunc (.func f') #[] (cap.map a.eval)) hx hs he hd hn ⟨_, .func (.func f') #[] (cap.map a.eval), rfl, .fn f' _ _ (by simp) (fun j c v hc hv => (mapList_R hG he cap j c v hc hv).1), pl_mk (by simp) (by simp), h⟩ (by simp [execOp, ho])
  case h_15 t l c ho => exact stp_make (K := KE env o.dst KV) hx hs he hG hd hn.ok (amake_mono (fun c σ h => ⟨c, rfl, h⟩) h) (by simp only [execOp, ho])
  case h_16 t x lo hi mx ho =>
    obtain ⟨a1, a2⟩ := optMap (x := lo) hG he rfl
    obtain ⟨b1, b2⟩ := optMap (x := hi) hG he rfl
    obtain ⟨c1, c2⟩ := optMap (x := mx) hG he rfl
    exact stpV_gives hx hs he hd hn (aslice_sound (R.ev hG he x) a1 a2 b1 b2 c2 h) (by simp only [execOp, ho])
  case h_17 s x f ho => exact stpV_gives hx hs he hd hn (afieldAddr_sound (R.ev hG he x) h) (by simp only [execOp, ho])
  case h_18 t x f ho => exact stpV_gives hx hs he hd hn (afield_sound (R.ev hG he x) h) (by simp only [execOp, ho])
  case h_19 t x i ho => exact stpV_gives hx hs he hd hn (aidx_sound (R.ev hG he x) (R.ev hG he i) h) (by simp only [execOp, ho])
  case h_20 t x i ho => exact stpV_gives hx hs he hd hn (aindex_sound (R.ev hG he x) (R.ev hG he i) h) (by simp only [execOp, ho])
  case h_21 x i ho =>
    have hr := R.ev hG he x
    unfold extractV at h
    split at h <;> try exact h.elim
    rename_i cs hev
    obtain ⟨c, hc, hk⟩ := h
    rw [hev] at hr
    generalize hv : a.eval x = vx at hr
    cases hr with
    | tup _ vs hl hR =>
    have hlt3 : i < vs.size := by rw [hl]; exact (List.getElem?_eq_some_iff.1 hc).1
    have hvi : vs[i]? = some vs[i] := Array.getElem?_eq_getElem hlt3
    exact stpV_plain hx hs he hd hn (hR i c _ hc hvi).pl (Pl.pl _) hk (by simp [execOp, ho, hv, Instr.extract, hvi])
  case h_22 x xt t ok ho => exact stpV_gives hx hs he hd hn (atypeAssert_sound (xt := xt) (R.ev hG he x) h) (by simp only [execOp, ho])
  case h_23 c ho => exact acall_sound (K := KE env o.dst KV) hx hs he hG hGp hd hn.ok noPan ho (acallV_call h)
  case h_24 c x y ho => exact stpV_gives hx hs he hd hn (apick_sound (R.ev hG he c) (R.ev hG he x) (R.ev hG he y) h) (by simp only [execOp, ho, bind_assoc, pure_bind])

end
end Go.Proofs.Ytoofpdmdgofdcaa.E

namespace Go.Proofs.Ytoofpdmdgofdcaa.E
open Go Go.RowKit
set_option linter.unusedVariables false
set_option linter.unusedSimpArgs false

variable {P : Program}

/-- Only one value is told. -/
def Det (F : (AV → Prop) → Prop) : Prop := ∀ K, F K → ∃ c, K c ∧ ∀ K' : AV → Prop, K' c → F K'

theorem det_val (c : AV) : Det fun K => K c := fun K h => ⟨c, h, fun K' h => h⟩
theorem det_false : Det fun K => False := fun K h => h.elim
theorem det_and {A : Prop} {F : (AV → Prop) → Prop} (h : Det F) : Det fun K => A ∧ F K := fun K ⟨ha, hf⟩ => by
  obtain ⟨c, h1, h2⟩ := h K hf
  exact ⟨c, h1, fun K' hk => ⟨ha, h2 K' hk⟩⟩
theorem det_opt {α : Type} {o : Option α} {F : (AV → Prop) → α → Prop} (h : ∀ x, Det fun K => F K x) : Det fun K => optK o (F K) := fun K ⟨x, hx, hf⟩ => by
  obtain ⟨c, h1, h2⟩ := h x K hf
  exact ⟨c, h1, fun K' hk => ⟨x, hx, h2 K' hk⟩⟩

theorem det_ite {A : Prop} [Decidable A] {F F' : (AV → Prop) → Prop} (h : Det F) (h' : Det F') : Det fun K => if A then F K else F' K := by
  by_cases hA : A <;> simp only [hA, if_true, if_false] <;> assumption

theorem det_aoff {x : AV} {n : Nat} : Det (aoff x n) := by
  unfold Det aoff
  cases x <;> first | exact det_val _ | exact det_false

theorem det_fieldAddr {s : TypeId} {x : AV} {f : Nat} : Det (afieldAddr P s x f) := by
  show Det fun K => afieldAddr P s x f K
  unfold afieldAddr
  (repeat' split) <;> first | exact det_false | exact det_and det_aoff

theorem det_idx {t : TypeId} {x i : AV} : Det (aidx P t x i) := by
  show Det fun K => aidx P t x i K
  unfold aidx
  (repeat' split) <;> first | exact det_false | exact det_and det_aoff | exact det_and (det_val _)

theorem det_part {t : TypeId} {cs : List AV} {off : Nat} : Det (apart P t cs off) := by
  show Det fun K => apart P t cs off K
  unfold apart
  (repeat' split) <;> first | exact det_false | exact det_val _ | exact det_opt fun _ => det_val _

theorem det_field {t : TypeId} {x : AV} {f : Nat} : Det (afield P t x f) := by
  show Det fun K => afield P t x f K
  unfold afield
  (repeat' split) <;> first | exact det_false | exact det_part

theorem det_index {t : TypeId} {x i : AV} : Det (aindex P t x i) := by
  show Det fun K => aindex P t x i K
  unfold aindex
  (repeat' split) <;> first | exact det_false | exact det_and det_part | exact det_and (det_val _)

theorem det_slice2 {x : AV} {sz : Nat} {l h : Int} : Det (aslice2 x sz l h) := by
  show Det fun K => aslice2 x sz l h K
  unfold aslice2
  (repeat' split) <;> first | exact det_false | exact det_and (det_val _)

theorem det_slice {t : TypeId} {x : AV} {lo hi mx : Option AV} : Det (aslice P t x lo hi mx) := by
  show Det fun K => aslice P t x lo hi mx K
  unfold aslice
  (repeat' split) <;> first | exact det_false | exact det_slice2 | exact det_and det_slice2 | exact det_and (det_and det_slice2)

theorem det_nil {x : AV} : Det (anil x) := by
  show Det fun K => anil x K
  unfold anil
  split <;> first | exact det_false | exact det_val _

theorem det_un {op : UnOp} {x : AV} : Det (aun op x) := by
  show Det fun K => aun op x K
  unfold aun
  split <;> first | exact det_false | exact det_val _

theorem det_cnv {src dst : TypeId} {x : AV} : Det (acnv P src dst x) := by
  show Det fun K => acnv P src dst x K
  unfold acnv
  (repeat' split) <;> first | exact det_false | exact det_val _ | exact det_and (det_and (det_opt fun _ => det_and (det_val _)))

theorem det_bytes {src dst : TypeId} {x : AV} : Det (abytes P src dst x) := by
  show Det fun K => abytes P src dst x K
  unfold abytes
  (repeat' split) <;> first | exact det_false | exact det_cnv | exact det_and (det_and (det_val _))

theorem det_makeIf {t : TypeId} {x : AV} : Det (amakeIf P t x) := by
  show Det fun K => amakeIf P t x K
  unfold amakeIf
  split <;> first | exact det_false | exact det_val _

theorem det_assert {x : AV} {t : TypeId} {ok : Bool} : Det (atypeAssert P x t ok) := by
  show Det fun K => atypeAssert P x t ok K
  unfold atypeAssert
  (repeat' split) <;> first | exact det_false | exact det_val _ | exact det_opt fun _ => det_val _

theorem det_extract {G : Nat → AV} {env : AEnv} {x : Operand} {i : Nat} : Det (extractV G env x i) := by
  show Det fun K => extractV G env x i K
  unfold extractV
  split <;> first | exact det_false | exact det_opt fun _ => det_val _

theorem det_build {G : Nat → AV} {env : AEnv} {t : TypeId} {ps : List (Nat × Operand)} : Det (abuild P G env t ps) := by
  show Det fun K => abuild P G env t ps K
  unfold abuild
  (repeat' split) <;> first | exact det_false | exact det_and (det_opt fun _ => det_val _)

theorem det_buildSlice {G : Nat → AV} {env : AEnv} {t : TypeId} {n : Nat} {ps : List (Nat × Operand)} : Det (abuildSlice P G env t n ps) := by
  show Det fun K => abuildSlice P G env t n ps K
  unfold abuildSlice
  (repeat' split) <;> first | exact det_false | exact det_and (det_and (det_opt fun _ => det_val _))

theorem det_int {op : BinOp} {k k' : IntKind} {x y : Int} : Det (aint op k x k' y) := by
  show Det fun K => aint op k x k' y K
  unfold aint
  (repeat' split) <;> first | exact det_false | exact det_val _ | exact det_and (det_val _) | exact det_and (det_and (det_val _))

theorem det_str {op : BinOp} {x y : List UInt8} : Det (astr op x y) := by
  show Det fun K => astr op x y K
  unfold astr
  (repeat' split) <;> first | exact det_false | exact det_val _ | exact det_and (det_val _) | exact det_and (det_and (det_val _))

theorem det_agg {op : BinOp} {t : TypeId} {cs ds : List AV} : Det (aaggEq P op t cs ds) := by
  show Det fun K => aaggEq P op t cs ds K
  unfold aaggEq
  (repeat' split) <;> first | exact det_false | exact det_and (det_opt fun _ => det_val _)

theorem det_bin {op : BinOp} {t : TypeId} {x y : AV} : Det (abin P op t x y) := by
  show Det fun K => abin P op t x y K
  unfold abin
  (repeat' split) <;> first | exact det_false | exact det_int | exact det_str | exact det_agg | exact det_and (det_opt fun _ => det_val _)

theorem det_pick {c x y : AV} : Det (apick c x y) := by
  show Det fun K => apick c x y K
  unfold apick
  split
  · rename_i b
    cases b with
    | true => simp only [brK_true]; exact det_val _
    | false => simp only [brK_false]; exact det_val _
  · exact det_false

/-- Neither the state is looked at, nor is it changed. -/
def quiet (o : Op) : Bool :=
  match o with
  | .assign _ | .move _ | .pick .. | .build .. | .buildSlice .. | .nilCheck _ | .binOp .. | .unOp .. | .convert .. | .makeInterface .. | .makeFunc .. | .slice .. | .fieldAddr .. | .field .. | .indexAddr .. | .index .. | .extract .. | .typeAssert .. => true
  | _ => false

def eqK (c : AV) (s : AState) : AV → AState → Prop := fun c' s' => c' = c ∧ s' = s

/-- What a quiet operation gives does not hang on the state. -/
theorem det_quiet {F : (AV → Prop) → Prop} (hF : Det F) {KV : AV → AState → Prop} {σ : AState} (h : F (Kc KV σ)) : ∃ c, KV c σ ∧ ∀ s, F (Kc (eqK c s) s) := by
  obtain ⟨c, h1, h2⟩ := hF _ h
  exact ⟨c, h1, fun s => h2 _ ⟨rfl, rfl⟩⟩

theorem aopV_quiet {G : Nat → AV} {o : Oper} {env : AEnv} {σ : AState} {KV : AV → AState → Prop} (hq : quiet o.op = true) (h : aopV P G o env σ KV) : ∃ c, KV c σ ∧ ∀ s, aopV P G o env s (eqK c s) := by
  unfold aopV at *
  unfold quiet at hq
  cases ho : o.op with
  | assign x => rw [ho] at h; exact ⟨_, h, fun s => ⟨rfl, rfl⟩⟩
  | move x => rw [ho] at h; exact ⟨_, h, fun s => ⟨rfl, rfl⟩⟩
  | pick c x y => rw [ho] at h; exact det_quiet det_pick h
  | build t ps => rw [ho] at h; exact det_quiet det_build h
  | buildSlice t n ps => rw [ho] at h; exact det_quiet det_buildSlice h
  | nilCheck x => rw [ho] at h; exact det_quiet det_nil h
  | binOp op t x y yt => rw [ho] at h; exact det_quiet det_bin h
  | unOp op t x => rw [ho] at h; exact det_quiet det_un h
  | convert src dst x => rw [ho] at h; exact det_quiet det_bytes h
  | makeInterface t x => rw [ho] at h; exact det_quiet det_makeIf h
  | makeFunc f first cap =>
    rw [ho] at h
    simp only at h ⊢
    split at h <;> try exact h.elim
    exact ⟨_, h, fun s => ⟨rfl, rfl⟩⟩
  | slice t x lo hi mx => rw [ho] at h; exact det_quiet det_slice h
  | fieldAddr s x f => rw [ho] at h; exact det_quiet det_fieldAddr h
  | field t x f => rw [ho] at h; exact det_quiet det_field h
  | indexAddr t x i => rw [ho] at h; exact det_quiet det_idx h
  | index t x i => rw [ho] at h; exact det_quiet det_index h
  | extract x i => rw [ho] at h; exact det_quiet det_extract h
  | typeAssert x xt t ok => rw [ho] at h; exact det_quiet det_assert h
  | _ => rw [ho] at hq; simp at hq

end Go.Proofs.Ytoofpdmdgofdcaa.E

namespace Go.Proofs.Ytoofpdmdgofdcaa.E
open Go Go.RowKit
set_option linter.unusedVariables false
set_option linter.unusedSimpArgs false

variable {P : Program}

theorem det_load {σ : AState} {t : TypeId} {x : AV} : Det (aload P σ t x) := by
  show Det fun K => aload P σ t x K
  unfold aload
  (repeat' split) <;> first | exact det_false | exact det_opt fun _ => det_val _ | exact det_and (det_opt fun _ => det_val _)

theorem det_len {σ : AState} {t : TypeId} {x : AV} : Det (alenB P σ t x) := by
  show Det fun K => alenB P σ t x K
  unfold alenB
  (repeat' split) <;> first | exact det_false | exact det_val _ | exact det_and (det_val _)

/-- A call of a function value. -/
def isCallF (o : Op) : Bool :=
  match o with
  | .call c => match c.callee with
    | .value _ => true
    | _ => false
  | _ => false

theorem det_one {F : (AV → Prop) → Prop} (hF : Det F) {KV : AV → AState → Prop} {σ : AState} (h : F (Kc KV σ)) : ∃ c σ', KV c σ' ∧ F (Kc (eqK c σ') σ) := by
  obtain ⟨c, h1, h2⟩ := hF _ h
  exact ⟨c, σ, h1, h2 _ ⟨rfl, rfl⟩⟩

theorem aopV_det {G : Nat → AV} {o : Oper} {env : AEnv} {σ : AState} {KV : AV → AState → Prop} (hc : isCallF o.op = false) (h : aopV P G o env σ KV) : ∃ c σ', KV c σ' ∧ aopV P G o env σ (eqK c σ') := by
  by_cases hq : quiet o.op = true
  · obtain ⟨c, h1, h2⟩ := aopV_quiet hq h
    exact ⟨c, σ, h1, h2 σ⟩
  · unfold aopV at *
    cases ho : o.op with
    | load t x => rw [ho] at h; exact det_one det_load h
    | alloc t =>
      rw [ho] at h
      simp only at h ⊢
      split at h <;> try exact h.elim
      exact ⟨_, _, h, rfl, rfl⟩
    | box t x =>
      rw [ho] at h
      simp only [boxV] at h ⊢
      split at h
      · exact ⟨_, _, h, rfl, rfl⟩
      · exact ⟨_, _, h.2, h.1, rfl, rfl⟩
    | store t x y =>
      rw [ho] at h
      simp only [storeV] at h ⊢
      (repeat' split at h) <;> first | exact h.elim | skip
      · obtain ⟨h1, h2, h3, h4⟩ := h
        exact ⟨_, _, h4, h1, h2, h3, rfl, rfl⟩
      · obtain ⟨h1, h2, h3, h4⟩ := h
        exact ⟨_, _, h4, h1, h2, h3, rfl, rfl⟩
    | makeSlice t l c =>
      rw [ho] at h
      simp only [amake] at h ⊢
      (repeat' split at h) <;> first | exact h.elim | skip
      obtain ⟨h1, h2, h3, h4⟩ := h
      exact ⟨_, _, h4, h1, h2, h3, rfl, rfl⟩
    | call c =>
      rw [ho] at h hc
      simp only [isCallF] at hc
      simp only [acallV] at h ⊢
      split at h <;> try exact h.elim
      · rename_i hcal
        simp [hcal] at hc
      · split at h <;> try exact h.elim
        · split at h <;> try exact h.elim
          exact det_one det_len h
        · split at h <;> try exact h.elim
          obtain ⟨z, h1, h2⟩ := h
          exact ⟨_, _, h2, z, h1, rfl, rfl⟩
        · split at h <;> try exact h.elim
          obtain ⟨z, h1, h2⟩ := h
          exact ⟨_, _, h2, z, h1, rfl, rfl⟩
    | _ => first | (exfalso; rw [ho] at hq; exact hq rfl) | (rw [ho] at h; exact h.elim)

theorem ev_congr {G : Nat → AV} {env env' : AEnv} {x : Operand} (h : ∀ t, x = .tmp t → env.getD t .u = env'.getD t .u) : ev G env x = ev G env' x := by
  cases x with
  | tmp t => exact h t rfl
  | _ => rfl

theorem afill_congr {G : Nat → AV} {env env' : AEnv} {t : TypeId} : ∀ (ps : List (Nat × Operand)) (cs : List AV), (∀ p ∈ ps, ev G env p.2 = ev G env' p.2) → afill P G env t cs ps = afill P G env' t cs ps
  | [], cs, _ => rfl
  | (i, x) :: r, cs, h => by
    have h1 : ev G env x = ev G env' x := h (i, x) (by simp)
    simp only [afill, h1]
    split
    · split
      · exact afill_congr r _ fun p hp => h p (by simp [hp])
      · rfl
    · rfl

theorem opt_congr {G : Nat → AV} {env env' : AEnv} {x : Option Operand} (h : ∀ y, x = some y → ev G env y = ev G env' y) : x.map (ev G env) = x.map (ev G env') := by
  cases x with
  | none => rfl
  | some y => simp [h y rfl]

theorem aopV_congr {G : Nat → AV} {o : Oper} {env env' : AEnv} {σ : AState} {KV : AV → AState → Prop} (e : ∀ x ∈ o.op.operands, ev G env x = ev G env' x) (h : aopV P G o env σ KV) : aopV P G o env' σ KV := by
  unfold aopV at *
  cases ho : o.op with
  | call c =>
    rw [ho] at h e
    simp only [acallV] at h ⊢
    have e1 : ∀ x ∈ c.args, ev G env x = ev G env' x := fun x hx => e x (by simp [Op.operands, Call.operands, hx])
    have e2 : aargs G env' c.args = aargs G env c.args := by
      unfold aargs
      exact List.map_congr_left fun x hx => by rw [e1 x (by simpa using hx)]
    split at h <;> try exact h.elim
    · rename_i f hcal
      have e3 : ev G env f = ev G env' f := e f (by simp [Op.operands, Call.operands, hcal])
      rw [← e3, e2]
      exact h
    · split at h <;> try exact h.elim
      · split at h <;> try exact h.elim
        rename_i t x h1 h2
        rw [← e1 x (by simp [h2])]
        exact h
      · split at h <;> try exact h.elim
        rename_i x r h2
        have e4 : r.map (ev G env') = r.map (ev G env) := List.map_congr_left fun y hy => (e1 y (by simp [h2, hy])).symm
        rw [← e1 x (by simp [h2]), e4]
        exact h
      · split at h <;> try exact h.elim
        rename_i x r h2
        have e4 : r.map (ev G env') = r.map (ev G env) := List.map_congr_left fun y hy => (e1 y (by simp [h2, hy])).symm
        rw [← e1 x (by simp [h2]), e4]
        exact h
  | build t ps =>
    rw [ho] at h e
    have e1 : ∀ p ∈ ps.toList, ev G env p.2 = ev G env' p.2 := fun p hp => e p.2 (by simp only [Op.operands, List.mem_toArray, List.mem_map]; exact ⟨p, hp, rfl⟩)
    have e2 : ∀ cs, afill P G env' t cs ps.toList = afill P G env t cs ps.toList := fun cs => (afill_congr _ _ e1).symm
    simp only [abuild, e2] at h ⊢
    exact h
  | buildSlice t n ps =>
    rw [ho] at h e
    have e1 : ∀ p ∈ ps.toList, ev G env p.2 = ev G env' p.2 := fun p hp => e p.2 (by simp only [Op.operands, List.mem_toArray, List.mem_map]; exact ⟨p, hp, rfl⟩)
    simp only [abuildSlice] at h ⊢
    (repeat' split at h) <;> first | exact h.elim | skip
    rw [← afill_congr _ _ e1]
    exact h
  | makeFunc f first cap =>
    rw [ho] at h e
    simp only at h ⊢
    split at h <;> try exact h.elim
    have e2 : (cap.toList.map fun x => (ev G env' x).ar) = (cap.toList.map fun x => (ev G env x).ar) := List.map_congr_left fun x hx => by
      rw [e x (by simp only [Op.operands, Array.mem_append]; exact .inr (by simpa using hx))]
    rw [e2]
    exact h
  | slice t x lo hi mx =>
    rw [ho] at h e
    simp only [Op.operands, Array.mem_append, List.mem_toArray, List.mem_singleton, Option.mem_toArray] at e
    have e1 : ev G env x = ev G env' x := e x (by simp)
    have e2 : lo.map (ev G env) = lo.map (ev G env') := opt_congr fun y hy => e y (by simp [hy])
    have e3 : hi.map (ev G env) = hi.map (ev G env') := opt_congr fun y hy => e y (by simp [hy])
    have e4 : mx.map (ev G env) = mx.map (ev G env') := opt_congr fun y hy => e y (by simp [hy])
    simp only at h ⊢
    rw [← e1, ← e2, ← e3, ← e4]
    exact h
  | pick c x y =>
    rw [ho] at h e
    have e1 : ev G env c = ev G env' c := e c (by simp [Op.operands])
    have e2 : ev G env x = ev G env' x := e x (by simp [Op.operands])
    have e3 : ev G env y = ev G env' y := e y (by simp [Op.operands])
    simp only at h ⊢
    rw [← e1, ← e2, ← e3]
    exact h
  | alloc t => rw [ho] at h; exact h
  | box t x =>
    rw [ho] at h e
    have e1 : ev G env x = ev G env' x := e x (by simp [Op.operands])
    simp only [boxV] at h ⊢
    rw [← e1]
    exact h
  | store t x y =>
    rw [ho] at h e
    have e1 : ev G env x = ev G env' x := e x (by simp [Op.operands])
    have e2 : ev G env y = ev G env' y := e y (by simp [Op.operands])
    simp only [storeV] at h ⊢
    rw [← e1, ← e2]
    exact h
  | extract x i =>
    rw [ho] at h e
    have e1 : ev G env x = ev G env' x := e x (by simp [Op.operands])
    simp only [extractV] at h ⊢
    rw [← e1]
    exact h
  | _ =>
    first
      | (rw [ho] at h; exact h.elim)
      | (rw [ho] at h e
         simp only [Op.operands, List.mem_toArray, List.mem_cons, List.not_mem_nil, or_false, forall_eq_or_imp, forall_eq] at e
         simp only at h ⊢
         first | (rw [← e.1, ← e.2]; exact h) | (rw [← e]; exact h))

end Go.Proofs.Ytoofpdmdgofdcaa.E

namespace Go.Proofs.Ytoofpdmdgofdcaa.E
open Go Go.RowKit
set_option linter.unusedVariables false
set_option linter.unusedSimpArgs false

variable {P : Program}

def retK (KV : AV → AState → Prop) : AV → AState → Prop := KV

/-- A call in a region that draws its order: 'cf' where it may come before or after another operation that looks at the state. -/
def acallD (P : Program) (G : Nat → AV) (cf : Bool) (o : Oper) (env : AEnv) (σ : AState) (KV : AV → AState → Prop) : Prop :=
  match o.op with
  | .call c => match c.callee with
    | .value f => match ev G env f with
      | .fn f cap => match cf with
        | true => ∃ r, (∀ s, ACalls P G f (aargs G env c.args ++ cap.map AV.pl) s (callV (eqK r s))) ∧ KV r σ
        | false => ∃ r σ', ACalls P G f (aargs G env c.args ++ cap.map AV.pl) σ (callV (eqK r σ')) ∧ KV r σ'
      | _ => False
    | _ => False
  | _ => False

def putK (K : AEnv → AState → Prop) (env : AEnv) (d : Option Tmp) : AV → AState → Prop := fun c σ => K (aput env d c) σ

def isLoad (o : Op) : Bool :=
  match o with
  | .load _ _ => true
  | _ => false

/-- What may be told not to hang on the state. -/
def freeC (o : Op) : Bool := isCallF o || isLoad o

/-- No call; 'cf': what it gives does not hang on the state. -/
def aopW (P : Program) (G : Nat → AV) (cf : Bool) (o : Oper) (env : AEnv) (σ : AState) (KV : AV → AState → Prop) : Prop :=
  match cf with
  | true => if isLoad o.op then ∃ c, (∀ s, aopV P G o env s (eqK c s)) ∧ KV c σ else aopV P G o env σ KV
  | false => aopV P G o env σ KV

def awD (P : Program) (G : Nat → AV) (ops : List Oper) (Q : AX → AEnv → AState → Prop) : List (Oper × Bool) → AEnv → AState → Prop
  | [], env, σ => Q .normal env σ
  | (o, cf) :: rest, env, σ => match gval ops env o with
    | some b => brK b (if isCallF o.op then acallD P G cf o env σ (putK (awD P G ops Q rest) env o.dst) else aopW P G cf o env σ (putK (awD P G ops Q rest) env o.dst)) (awD P G ops Q rest (aput env o.dst (.tup [])) σ)
    | none => False

def TStep (P : Program) (G : Nat → AV) (ops : List Oper) (cf : Bool) (o : Oper) (env : AEnv) (σ : AState) (c : AV) (σ' : AState) : Prop :=
  (gval ops env o = some false ∧ c = .tup [] ∧ σ' = σ) ∨ (gval ops env o = some true ∧ (((cf = true ∧ freeC o.op = true) ∧ σ' = σ ∧ ∀ s, aopV P G o env s (eqK c s)) ∨ ((cf = true → freeC o.op = false) ∧ aopV P G o env σ (eqK c σ'))))

structure Tr (P : Program) (G : Nat → AV) (ops : List Oper) (l : List (Oper × Bool)) (env : AEnv) (σ : AState) (cs : Nat → AV) (es : Nat → AEnv) (sts : Nat → AState) : Prop where
  e0 : es 0 = env
  s0 : sts 0 = σ
  e : ∀ (i : Nat) o b, l[i]? = some (o, b) → es (i + 1) = aput (es i) o.dst (cs i)
  step : ∀ (i : Nat) o b, l[i]? = some (o, b) → TStep P G ops b o (es i) (sts i) (cs i) (sts (i + 1))

theorem acallD_spec {G : Nat → AV} {cf : Bool} {o : Oper} {env : AEnv} {σ : AState} {KV : AV → AState → Prop} (h : acallD P G cf o env σ KV) :
    ∃ c σ', KV c σ' ∧ (((cf = true ∧ freeC o.op = true) ∧ σ' = σ ∧ ∀ s, aopV P G o env s (eqK c s)) ∨ ((cf = true → freeC o.op = false) ∧ aopV P G o env σ (eqK c σ'))) := by
  unfold acallD at h
  split at h <;> try exact h.elim
  rename_i c ho
  split at h <;> try exact h.elim
  rename_i f hc
  split at h <;> try exact h.elim
  rename_i f' cap hev
  split at h
  · obtain ⟨r, h1, h2⟩ := h
    refine ⟨r, σ, h2, .inl ⟨⟨rfl, by simp [freeC, isCallF, ho, hc]⟩, rfl, fun s => ?_⟩⟩
    simp only [aopV, ho, acallV, hc, hev]
    exact h1 s
  · obtain ⟨r, σ', h1, h2⟩ := h
    refine ⟨r, σ', h2, .inr ⟨(fun e => by cases e), ?_⟩⟩
    simp only [aopV, ho, acallV, hc, hev]
    exact h1

theorem awD_trace {G : Nat → AV} {ops : List Oper} {Q : AX → AEnv → AState → Prop} : ∀ (l : List (Oper × Bool)) (env : AEnv) (σ : AState), awD P G ops Q l env σ →
    ∃ cs es sts, Tr P G ops l env σ cs es sts ∧ Q .normal (es l.length) (sts l.length)
  | [], env, σ, h => ⟨fun _ => .u, fun _ => env, fun _ => σ, ⟨rfl, rfl, fun i o b h => by simp at h, fun i o b h => by simp at h⟩, h⟩
  | (o, cf) :: rest, env, σ, h => by
    simp only [awD] at h
    have key : ∀ c σ', awD P G ops Q rest (aput env o.dst c) σ' → TStep P G ops cf o env σ c σ' → ∃ cs es sts, Tr P G ops ((o, cf) :: rest) env σ cs es sts ∧ Q .normal (es ((o, cf) :: rest).length) (sts ((o, cf) :: rest).length) := fun c σ' h1 h2 => by
      obtain ⟨cs, es, sts, ht, hq⟩ := awD_trace rest _ _ h1
      refine ⟨fun i => match i with | 0 => c | i + 1 => cs i, fun i => match i with | 0 => env | i + 1 => es i, fun i => match i with | 0 => σ | i + 1 => sts i, ⟨rfl, rfl, fun i o' b hi => ?_, fun i o' b hi => ?_⟩, hq⟩
      · cases i with
        | zero =>
          simp at hi
          obtain ⟨rfl, rfl⟩ := hi
          exact ht.e0
        | succ i => exact ht.e i o' b (by simpa using hi)
      · cases i with
        | zero =>
          simp at hi
          obtain ⟨rfl, rfl⟩ := hi
          show TStep P G ops cf o env σ c (sts 0)
          rw [ht.s0]
          exact h2
        | succ i => exact ht.step i o' b (by simpa using hi)
    split at h <;> try exact h.elim
    rename_i b hb
    cases b with
    | true =>
      rw [brK_true] at h
      split at h
      · obtain ⟨c, σ', h1, h2⟩ := acallD_spec h
        exact key c σ' h1 (.inr ⟨hb, h2⟩)
      · rename_i hnc
        have hnc' : isCallF o.op = false := by simpa using hnc
        cases cf with
        | false =>
          obtain ⟨c, σ', h1, h2⟩ := aopV_det hnc' h
          exact key c σ' h1 (.inr ⟨hb, .inr ⟨fun e => (by cases e), h2⟩⟩)
        | true =>
          simp only [aopW] at h
          split at h
          · rename_i hl
            obtain ⟨c, h1, h2⟩ := h
            exact key c σ h2 (.inr ⟨hb, .inl ⟨⟨rfl, by simp [freeC, hl]⟩, rfl, h1⟩⟩)
          · rename_i hl
            obtain ⟨c, σ', h1, h2⟩ := aopV_det hnc' h
            exact key c σ' h1 (.inr ⟨hb, .inr ⟨fun _ => by simp [freeC, hnc']; simpa using hl, h2⟩⟩)
    | false =>
      rw [brK_false] at h
      exact key _ _ h (.inl ⟨hb, rfl, rfl⟩)

/-- The state is looked at, and not changed. -/
def ro (o : Op) : Bool :=
  match o with
  | .load .. => true
  | .call c => match c.callee with
    | .builtin b => match b with
      | .len | .min | .max => true
      | _ => false
    | _ => false
  | _ => false

theorem aopV_ro {G : Nat → AV} {o : Oper} {env : AEnv} {σ σ' : AState} {c : AV} (hq : ro o.op = true) (h : aopV P G o env σ (eqK c σ')) : σ' = σ := by
  unfold aopV at h
  unfold ro at hq
  cases ho : o.op with
  | load t x =>
    rw [ho] at h
    obtain ⟨c', ⟨_, h2⟩, _⟩ := det_load _ h
    exact h2.symm
  | call cl =>
    rw [ho] at h hq
    simp only at hq
    simp only [acallV] at h
    split at h <;> try exact h.elim
    · rename_i hc
      simp [hc] at hq
    · split at h <;> try exact h.elim
      · split at h <;> try exact h.elim
        obtain ⟨c', ⟨_, h2⟩, _⟩ := det_len _ h
        exact h2.symm
      · split at h <;> try exact h.elim
        obtain ⟨z, _, _, h2⟩ := h
        exact h2.symm
      · split at h <;> try exact h.elim
        obtain ⟨z, _, _, h2⟩ := h
        exact h2.symm
  | _ => rw [ho] at hq; simp at hq

/-- The temporaries that an operation reads. -/
def tmpsOf (o : Op) : List Nat := o.operands.toList.filterMap fun | .tmp t => some t | _ => none

/-- The edges that bind. -/
def edges (o : Oper) : List Nat := (o.after.toList.filter (Region.binds .any)).map (·.on)

/-- 'bs': for each operation, as bits, the ones before it. 'cf': the calls that may come before or after another operation that looks at the state. -/
def okD1 (ops : List Oper) (bs : List Nat) (cf : List Bool) (i : Nat) (o : Oper) : Bool :=
  ((edges o).all fun e => decide (e < i)) &&
  ((List.range ops.length).all fun j => !(bs.getD i 0).testBit j || (edges o).any fun e => e == j || (bs.getD e 0).testBit j) &&
  ((List.range ops.length).all fun j => match ops[j]? with
    | some o' =>
      (match o.dst, o'.dst with | some d, some d' => i == j || d != d' | _, _ => true) &&
      (match o'.dst with | some d => !(tmpsOf o.op).contains d || (decide (j < i) && (bs.getD i 0).testBit j) | none => true) &&
      (quiet o.op || quiet o'.op || (ro o.op && ro o'.op) || !decide (j < i) || (bs.getD i 0).testBit j || cf.getD i false || cf.getD j false)
    | none => true) &&
  (match o.guard with | some (j, _) => decide (j < i) && (bs.getD i 0).testBit j | none => true) &&
  (!cf.getD i false || freeC o.op)

def okD (ops : List Oper) (bs : List Nat) (cf : List Bool) : Bool := cf.length == ops.length && (List.range ops.length).all fun i => match ops[i]? with | some o => okD1 ops bs cf i o | none => true

section
variable {ops : List Oper} {bs : List Nat} {cf : List Bool}

structure Ok (ops : List Oper) (bs : List Nat) (cf : List Bool) : Prop where
  len : cf.length = ops.length
  edge : ∀ (i : Nat) o, ops[i]? = some o → ∀ e ∈ o.after, Region.binds .any e = true → e.on < i
  bef : ∀ (i j : Nat) o, ops[i]? = some o → (bs.getD i 0).testBit j = true → j < ops.length → ∃ e ∈ o.after, Region.binds .any e = true ∧ (e.on = j ∨ (bs.getD e.on 0).testBit j = true)
  dst : ∀ (i j : Nat) o o' d, ops[i]? = some o → ops[j]? = some o' → o.dst = some d → o'.dst = some d → i = j
  read : ∀ (i j : Nat) o o' d, ops[i]? = some o → ops[j]? = some o' → d ∈ tmpsOf o.op → o'.dst = some d → j < i ∧ (bs.getD i 0).testBit j = true
  loud : ∀ (i j : Nat) o o', ops[i]? = some o → ops[j]? = some o' → quiet o.op = false → quiet o'.op = false → (ro o.op && ro o'.op) = false → j < i → cf.getD i false = false → cf.getD j false = false → (bs.getD i 0).testBit j = true
  guard : ∀ (i j : Nat) o want, ops[i]? = some o → o.guard = some (j, want) → j < i ∧ (bs.getD i 0).testBit j = true
  call : ∀ (i : Nat) o, ops[i]? = some o → cf.getD i false = true → freeC o.op = true

theorem Ok.of (h : okD ops bs cf = true) : Ok ops bs cf := by
  unfold okD at h
  rw [Bool.and_eq_true] at h
  obtain ⟨hlen, h⟩ := h
  have lt : ∀ {i : Nat} {o : Oper}, ops[i]? = some o → i < ops.length := fun e => (List.getElem?_eq_some_iff.1 e).1
  have main : ∀ (i : Nat) o, ops[i]? = some o → okD1 ops bs cf i o = true := fun i o ho => by
    have := List.all_eq_true.1 h i (List.mem_range.2 (lt ho))
    rw [ho] at this
    exact this
  have mem : ∀ {o : Oper} {j : Nat}, j ∈ edges o ↔ ∃ e ∈ o.after, Region.binds .any e = true ∧ e.on = j := by
    intro o j
    simp only [edges, List.mem_map, List.mem_filter, Array.mem_toList_iff]
    constructor
    · rintro ⟨e, ⟨h1, h2⟩, h3⟩; exact ⟨e, h1, h2, h3⟩
    · rintro ⟨e, h1, h2, h3⟩; exact ⟨e, ⟨h1, h2⟩, h3⟩
  have parts : ∀ (i : Nat) o, ops[i]? = some o → _ := fun i o ho => by
    have := main i o ho
    unfold okD1 at this
    simp only [Bool.and_eq_true] at this
    exact this
  refine ⟨by simpa using hlen, ?_, ?_, ?_, ?_, ?_, ?_, ?_⟩
  · intro i o ho e he hb
    have := List.all_eq_true.1 (parts i o ho).1.1.1.1 e.on (mem.2 ⟨e, he, hb, rfl⟩)
    simpa using this
  · intro i j o ho hj hlt
    have := List.all_eq_true.1 (parts i o ho).1.1.1.2 j (List.mem_range.2 hlt)
    rw [hj] at this
    simp only [Bool.not_true, Bool.false_or, List.any_eq_true, Bool.or_eq_true, beq_iff_eq] at this
    obtain ⟨e, h1, h2⟩ := this
    obtain ⟨e', h3, h4, rfl⟩ := mem.1 h1
    exact ⟨e', h3, h4, h2⟩
  · intro i j o o' d ho ho' hd hd'
    have := List.all_eq_true.1 (parts i o ho).1.1.2 j (List.mem_range.2 (lt ho'))
    rw [ho'] at this
    simp only [hd, hd', Bool.and_eq_true, Bool.or_eq_true, beq_iff_eq, bne_self_eq_false, Bool.false_eq_true, or_false] at this
    exact this.1.1
  · intro i j o o' d ho ho' hd hd'
    have := List.all_eq_true.1 (parts i o ho).1.1.2 j (List.mem_range.2 (lt ho'))
    rw [ho'] at this
    simp only [hd', Bool.and_eq_true, Bool.or_eq_true, decide_eq_true_eq, Bool.not_eq_true', List.contains_eq_mem] at this
    rcases this.1.2 with h1 | h1
    · simp [hd] at h1
    · exact h1
  · intro i j o o' ho ho' h1 h2 hro h3 h4 h5
    have := List.all_eq_true.1 (parts i o ho).1.1.2 j (List.mem_range.2 (lt ho'))
    rw [ho'] at this
    simp only [hro, Bool.and_eq_true, h1, h2, h3, h4, h5, Bool.false_or, Bool.or_false, decide_true, Bool.not_true] at this
    exact this.2
  · intro i j o want ho hg
    have := (parts i o ho).1.2
    rw [hg] at this
    simpa using this
  · intro i o ho hc
    have := (parts i o ho).2
    rw [hc] at this
    simpa using this

end
end Go.Proofs.Ytoofpdmdgofdcaa.E

namespace Go.Proofs.Ytoofpdmdgofdcaa.E
open Go Go.RowKit
set_option linter.unusedVariables false
set_option linter.unusedSimpArgs false

variable {P : Program}

def lst (listed : Array Bool) (j : Nat) : Prop := listed.getD j false = true

/-- How many are left. -/
def left (listed : Array Bool) : Nat := listed.toList.count false

theorem count_set : ∀ (l : List Bool) (i : Nat), l[i]? = some false → (l.set i true).count false + 1 = l.count false
  | [], i, h => by simp at h
  | b :: l, 0, h => by
    simp at h
    subst h
    simp
  | b :: l, i + 1, h => by
    have := count_set l i (by simpa using h)
    cases b <;> simp <;> omega

section
variable {G : Nat → AV} {ops : List Oper} {bs : List Nat} {cf : List Bool} {env0 : AEnv} {σ0 : AState} {cs : Nat → AV} {es : Nat → AEnv} {sts : Nat → AState}

/-- The environment, where these are done. -/
structure EnvI (ops : List Oper) (cs : Nat → AV) (env0 env : AEnv) (done : Nat → Prop) : Prop where
  len : env.length = env0.length
  old : ∀ t, (∀ (j : Nat) o, ops[j]? = some o → o.dst = some t → ¬ done j) → env[t]? = env0[t]?
  new : ∀ (t j : Nat) o, ops[j]? = some o → o.dst = some t → done j → t < env0.length → env[t]? = some (cs j)

theorem EnvI.put {env : AEnv} {done : Nat → Prop} (hok : Ok ops bs cf) (h : EnvI ops cs env0 env done) {i : Nat} {o : Oper} (ho : ops[i]? = some o) (hn : ¬ done i) {done' : Nat → Prop} (hd : ∀ j, done' j ↔ done j ∨ j = i) : EnvI ops cs env0 (aput env o.dst (cs i)) done' := by
  refine ⟨?_, fun t ht => ?_, fun t j oj hj hjd hdn hlt => ?_⟩
  · rw [← h.len]
    unfold aput
    split <;> simp
  · have h1 : o.dst ≠ some t := fun e => ht i o ho e ((hd i).2 (.inr rfl))
    rw [← h.old t (fun j oj hj hjd hdn => ht j oj hj hjd ((hd j).2 (.inl hdn)))]
    unfold aput
    split
    · rename_i d hdst
      rw [List.getElem?_set_ne (fun e => h1 (by rw [hdst, e]))]
    · rfl
  · by_cases e : j = i
    · subst e
      rw [ho] at hj
      cases hj
      rw [hjd]
      unfold aput
      simp only
      rw [List.getElem?_set_self (by rw [h.len]; exact hlt)]
    · have h1 : o.dst ≠ some t := fun e2 => e (hok.dst j i oj o t hj ho hjd e2)
      have h2 := h.new t j oj hj hjd (((hd j).1 hdn).resolve_right e) hlt
      rw [← h2]
      unfold aput
      split
      · rename_i d hdst
        rw [List.getElem?_set_ne (fun e => h1 (by rw [hdst, e]))]
      · rfl

theorem EnvI.same {env env' : AEnv} {done done' : Nat → Prop} (h : EnvI ops cs env0 env done) (h' : EnvI ops cs env0 env' done') (t : Nat) (ht : ∀ (j : Nat) o, ops[j]? = some o → o.dst = some t → done j ∧ done' j) : env[t]? = env'[t]? := by
  by_cases hw : ∃ (j : Nat) (o : Oper), ops[j]? = some o ∧ o.dst = some t
  · obtain ⟨j, o, h1, h2⟩ := hw
    by_cases hlt : t < env0.length
    · rw [h.new t j o h1 h2 (ht j o h1 h2).1 hlt, h'.new t j o h1 h2 (ht j o h1 h2).2 hlt]
    · rw [List.getElem?_eq_none (by rw [h.len]; omega), List.getElem?_eq_none (by rw [h'.len]; omega)]
  · rw [h.old t fun j o h1 h2 _ => hw ⟨j, o, h1, h2⟩, h'.old t fun j o h1 h2 _ => hw ⟨j, o, h1, h2⟩]

theorem Tr.env (hok : Ok ops bs cf) (ht : Tr P G ops (ops.zip cf) env0 σ0 cs es sts) : ∀ (i : Nat), i ≤ ops.length → EnvI ops cs env0 (es i) (fun j => j < i)
  | 0, _ => by rw [ht.e0]; exact ⟨rfl, fun t _ => rfl, fun t j o _ _ h => by omega⟩
  | i + 1, hi => by
    have h1 : ops[i]? = some ops[i] := List.getElem?_eq_getElem (by omega)
    have h2 : cf[i]? = some (cf[i]'(by rw [hok.len]; omega)) := List.getElem?_eq_getElem (by rw [hok.len]; omega)
    have h3 : (ops.zip cf)[i]? = some (ops[i], cf[i]'(by rw [hok.len]; omega)) := by
      rw [List.getElem?_zip_eq_some]; exact ⟨h1, h2⟩
    rw [ht.e i _ _ h3]
    exact (Tr.env hok ht i (by omega)).put hok h1 (by omega) (fun j => by omega)

theorem Tr.at (hok : Ok ops bs cf) (ht : Tr P G ops (ops.zip cf) env0 σ0 cs es sts) {i : Nat} {o : Oper} (ho : ops[i]? = some o) : TStep P G ops (cf.getD i false) o (es i) (sts i) (cs i) (sts (i + 1)) := by
  have hlt : i < ops.length := (List.getElem?_eq_some_iff.1 ho).1
  have h2 : cf[i]? = some (cf[i]'(by rw [hok.len]; omega)) := List.getElem?_eq_getElem (by rw [hok.len]; omega)
  have h3 : (ops.zip cf)[i]? = some (o, cf[i]'(by rw [hok.len]; omega)) := by
    rw [List.getElem?_zip_eq_some]; exact ⟨ho, h2⟩
  rw [List.getD_eq_getElem?_getD, h2]
  exact ht.step i _ _ h3

/-- Does the operation change the state, maybe? -/
def effk (ops : List Oper) (cf : List Bool) (k : Nat) : Prop := ∃ o, ops[k]? = some o ∧ quiet o.op = false ∧ cf.getD k false = false ∧ ro o.op = false

theorem Tr.calm (hok : Ok ops bs cf) (ht : Tr P G ops (ops.zip cf) env0 σ0 cs es sts) {i : Nat} {o : Oper} (ho : ops[i]? = some o) (hn : ¬ effk ops cf i) : sts (i + 1) = sts i := by
  have h := ht.at hok ho
  rcases h with ⟨_, _, h⟩ | ⟨_, ⟨_, h, _⟩ | ⟨h1, h2⟩⟩
  · exact h
  · exact h
  · cases hqq : quiet o.op with
    | true =>
      obtain ⟨c, ⟨_, h3⟩, _⟩ := aopV_quiet hqq h2
      exact h3.symm
    | false =>
      cases hrr : ro o.op with
      | true => exact aopV_ro hrr h2
      | false =>
        cases hcf : cf.getD i false with
        | false => exact absurd ⟨o, ho, hqq, hcf, hrr⟩ hn
        | true =>
          have h3 := hok.call i o ho hcf
          rw [h1 hcf] at h3
          cases h3

theorem Tr.same (hok : Ok ops bs cf) (ht : Tr P G ops (ops.zip cf) env0 σ0 cs es sts) {p : Nat} : ∀ (m : Nat), p + m ≤ ops.length → (∀ k, p ≤ k → k < p + m → ¬ effk ops cf k) → sts (p + m) = sts p
  | 0, _, _ => rfl
  | m + 1, hle, h => by
    have h1 : ops[p + m]? = some ops[p + m] := List.getElem?_eq_getElem (by omega)
    rw [← Nat.add_assoc, ht.calm hok h1 (h (p + m) (by omega) (by omega))]
    exact Tr.same hok ht m (by omega) fun k h2 h3 => h k h2 (by omega)

theorem Tr.same2 (hok : Ok ops bs cf) (ht : Tr P G ops (ops.zip cf) env0 σ0 cs es sts) {p q : Nat} (hp : p ≤ ops.length) (hq : q ≤ ops.length) (h : ∀ k, effk ops cf k → (k < p ↔ k < q)) : sts p = sts q := by
  rcases Nat.le_total p q with hle | hle
  · have := ht.same hok (p := p) (q - p) (by omega) fun k h1 h2 h3 => by
      have := h k h3
      omega
    rw [show p + (q - p) = q by omega] at this
    exact this.symm
  · have := ht.same hok (p := q) (p - q) (by omega) fun k h1 h2 h3 => by
      have := h k h3
      omega
    rw [show q + (p - q) = p by omega] at this
    exact this

/-- Where a run of the region stands. -/
structure St (ops : List Oper) (cf : List Bool) (cs : Nat → AV) (env0 : AEnv) (sts : Nat → AState) (listed : Array Bool) (env : AEnv) (σ : AState) : Prop where
  size : listed.size = ops.length
  closed : ∀ (i : Nat) o, ops[i]? = some o → lst listed i → ∀ e ∈ o.after, Region.binds .any e = true → lst listed e.on
  env : EnvI ops cs env0 env (lst listed)
  at_ : ∃ p, p ≤ ops.length ∧ σ = sts p ∧ ∀ k, effk ops cf k → (lst listed k ↔ k < p)

theorem St.bef (hok : Ok ops bs cf) {listed : Array Bool} {env : AEnv} {σ : AState} (h : St ops cf cs env0 sts listed env σ) {j : Nat} (hj : j < ops.length) : ∀ (m i : Nat) o, i < m → ops[i]? = some o → (∀ e ∈ o.after, Region.binds .any e = true → lst listed e.on) → (bs.getD i 0).testBit j = true → lst listed j
  | 0, i, o, hm, _, _, _ => by omega
  | m + 1, i, o, hm, ho, hp, hb => by
    obtain ⟨e, h1, h2, h3⟩ := hok.bef i j o ho hb hj
    rcases h3 with h3 | h3
    · rw [← h3]; exact hp e h1 h2
    · have hlt := hok.edge i o ho e h1 h2
      have hil : i < ops.length := (List.getElem?_eq_some_iff.1 ho).1
      have h4 : ops[e.on]? = some (ops[e.on]'(by omega)) := List.getElem?_eq_getElem (by omega)
      exact St.bef hok h hj m e.on _ (by omega) h4 (h.closed e.on _ h4 (hp e h1 h2)) h3

end
end Go.Proofs.Ytoofpdmdgofdcaa.E

namespace Go.Proofs.Ytoofpdmdgofdcaa.E
open Go Go.RowKit
set_option linter.unusedVariables false
set_option linter.unusedSimpArgs false

variable {P : Program}

theorem gval_congr {ops : List Oper} {o : Oper} {env env' : AEnv} (h : ∀ (j : Nat) want oj t, o.guard = some (j, want) → ops[j]? = some oj → oj.dst = some t → env[t]? = env'[t]?) : gval ops env o = gval ops env' o := by
  unfold gval
  split
  · rfl
  · rename_i j want hg
    split
    · rename_i oj hoj
      split
      · rename_i t ht
        rw [h j want oj t hg hoj ht]
      · rfl
    · rfl

theorem mem_tmps {o : Op} {t : Nat} (h : Operand.tmp t ∈ o.operands) : t ∈ tmpsOf o := by
  unfold tmpsOf
  rw [List.mem_filterMap]
  exact ⟨.tmp t, by simpa using h, rfl⟩

section
variable {G : Nat → AV} {ops : List Oper} {bs : List Nat} {cf : List Bool} {env0 : AEnv} {σ0 : AState} {cs : Nat → AV} {es : Nat → AEnv} {sts : Nat → AState} {g0 : Gh} {w0 : World} {D : List Deferred} {Q : AX → AEnv → AState → Prop}

theorem lst_set {listed : Array Bool} {i j : Nat} (hi : i < listed.size) : lst (listed.setIfInBounds i true) j ↔ lst listed j ∨ j = i := by
  unfold lst
  by_cases e : j = i
  · subst e
    simp [Array.getD_eq_getD_getElem?, Array.getElem?_setIfInBounds, hi]
  · simp only [e, or_false]
    rw [getD_set_ne false (Ne.symm e)]

theorem St.next (hok : Ok ops bs cf) (ht : Tr P G ops (ops.zip cf) env0 σ0 cs es sts) {listed : Array Bool} {env : AEnv} {σ : AState} (h : St ops cf cs env0 sts listed env σ) {i : Nat} {o : Oper} (ho : ops[i]? = some o) (hn : ¬ lst listed i)
    (hp : ∀ e ∈ o.after, Region.binds .any e = true → lst listed e.on) {σ' : AState} (hs : effk ops cf i → σ' = sts (i + 1)) (hs2 : ¬ effk ops cf i → σ' = σ) : St ops cf cs env0 sts (listed.setIfInBounds i true) (aput env o.dst (cs i)) σ' := by
  have hlt : i < ops.length := (List.getElem?_eq_some_iff.1 ho).1
  have hsz : i < listed.size := by rw [h.size]; exact hlt
  refine ⟨by simp [h.size], fun k ok hk hl e he hb => ?_, h.env.put hok ho hn (fun j => lst_set hsz), ?_⟩
  · rw [lst_set hsz] at hl ⊢
    rcases hl with hl | rfl
    · exact .inl (h.closed k ok hk hl e he hb)
    · rw [ho] at hk
      cases hk
      exact .inl (hp e he hb)
  · by_cases hef : effk ops cf i
    · refine ⟨i + 1, by omega, hs hef, fun k hk => ?_⟩
      rw [lst_set hsz]
      obtain ⟨o1, q1, q2, q3, q4⟩ := hef
      obtain ⟨o2, r1, r2, r3, r4⟩ := hk
      rw [ho] at q1
      cases q1
      have hltk : k < ops.length := (List.getElem?_eq_some_iff.1 r1).1
      rcases Nat.lt_trichotomy k i with hki | hki | hki
      · have hb := hok.loud i k o o2 ho r1 q2 r2 (by simp [r4]) hki q3 r3
        have := h.bef hok hltk (i + 1) i o (by omega) ho hp hb
        simp [this]; omega
      · simp [hki]
      · have hb := hok.loud k i o2 o r1 ho r2 q2 (by simp [r4]) hki r3 q3
        constructor
        · rintro (hl | hl)
          · exact absurd (h.bef hok hlt (k + 1) k o2 (by omega) r1 (h.closed k o2 r1 hl) hb) hn
          · omega
        · intro h2; omega
    · obtain ⟨p, h1, h2, h3⟩ := h.at_
      refine ⟨p, h1, by rw [hs2 hef, h2], fun k hk => ?_⟩
      rw [lst_set hsz, ← h3 k hk]
      constructor
      · rintro (hl | rfl)
        · exact hl
        · exact absurd hk hef
      · exact .inl

/-- At an operation that may change the state, the state is the one of the text's order. -/
theorem St.here (hok : Ok ops bs cf) (ht : Tr P G ops (ops.zip cf) env0 σ0 cs es sts) {listed : Array Bool} {env : AEnv} {σ : AState} (h : St ops cf cs env0 sts listed env σ) {i : Nat} {o : Oper} (ho : ops[i]? = some o) (hn : ¬ lst listed i)
    (hp : ∀ e ∈ o.after, Region.binds .any e = true → lst listed e.on) (hq2 : quiet o.op = false) (hq3 : cf.getD i false = false) : σ = sts i := by
  have hlt : i < ops.length := (List.getElem?_eq_some_iff.1 ho).1
  obtain ⟨p, h1, h2, h3⟩ := h.at_
  rw [h2]
  refine ht.same2 hok h1 (by omega) fun k hk => ?_
  rw [← h3 k hk]
  obtain ⟨o2, r1, r2, r3, r4⟩ := hk
  have hltk : k < ops.length := (List.getElem?_eq_some_iff.1 r1).1
  rcases Nat.lt_trichotomy k i with hki | hki | hki
  · have hb := hok.loud i k o o2 ho r1 hq2 r2 (by simp [r4]) hki hq3 r3
    have := h.bef hok hltk (i + 1) i o (by omega) ho hp hb
    simp [this, hki]
  · subst hki
    simp [hn]
  · have hb := hok.loud k i o2 o r1 ho r2 hq2 (by simp [r4]) hki r3 hq3
    constructor
    · intro hl
      exact absurd (h.bef hok hlt (k + 1) k o2 (by omega) r1 (h.closed k o2 r1 hl) hb) hn
    · intro h2; omega

theorem any_run (hG : GOK G g0) (hGp : GPl G) (hok : Ok ops bs cf) (ht : Tr P G ops (ops.zip cf) env0 σ0 cs es sts) (hq : Q .normal (es ops.length) (sts ops.length)) {r : Option Nat} {n : Nat} :
    ∀ (fuel : Nat) (listed : Array Bool) (env : AEnv) (σ : AState) (a : Act) (w : World), left listed ≤ fuel → St ops cf cs env0 sts listed env σ → Inv g0 w0 D env σ a w → wpAnyIn (FW r) n P .any ops.toArray (QInv g0 w0 D Q) fuel listed a w := by
  have fin : ∀ (listed : Array Bool) (env : AEnv) (σ : AState) (a : Act) (w : World), St ops cf cs env0 sts listed env σ → Inv g0 w0 D env σ a w → Region.ready .any ops.toArray listed = [] → QInv g0 w0 D Q .normal a w := by
    intro listed env σ a w hst hi hr
    have hall : ∀ (m j : Nat), j < m → j < ops.length → lst listed j := by
      intro m
      induction m with
      | zero => intro j h; omega
      | succ m ih =>
        intro j hj hlt
        by_cases hl : lst listed j
        · exact hl
        · have h1 : ops[j]? = some ops[j] := List.getElem?_eq_getElem hlt
          have : j ∈ Region.ready .any ops.toArray listed := by
            rw [mem_ready]
            refine ⟨?_, ops[j], by simp [h1], fun e he hb => ?_⟩
            · unfold lst at hl
              have hsz : j < listed.size := by rw [hst.size]; exact hlt
              simp [Array.getD_eq_getD_getElem?, hsz] at hl ⊢
              exact hl
            · have h2 := hok.edge j _ h1 e he hb
              exact ih e.on (by omega) (by omega)
          rw [hr] at this
          cases this
    have henv : env = es ops.length := by
      apply List.ext_getElem?
      intro t
      exact hst.env.same (ht.env hok ops.length (Nat.le_refl _)) t fun j o h1 h2 => ⟨hall (j + 1) j (by omega) (List.getElem?_eq_some_iff.1 h1).1, (List.getElem?_eq_some_iff.1 h1).1⟩
    have hσ : σ = sts ops.length := by
      obtain ⟨p, h1, h2, h3⟩ := hst.at_
      rw [h2]
      refine ht.same2 hok h1 (Nat.le_refl _) fun k hk => ?_
      have hltk : k < ops.length := by
        obtain ⟨o2, r1, _⟩ := hk
        exact (List.getElem?_eq_some_iff.1 r1).1
      have := (h3 k hk).1 (hall (k + 1) k (by omega) hltk)
      simp [this, hltk]
    exact ⟨env, σ, by rw [henv, hσ]; exact hq, hi⟩
  intro fuel
  induction fuel with
  | zero =>
    intro listed env σ a w hf hst hi
    have hr : Region.ready .any ops.toArray listed = [] := by
      apply List.eq_nil_iff_forall_not_mem.2
      intro j hj
      obtain ⟨h0, o, ho, _⟩ := mem_ready.1 hj
      have hlt : j < listed.size := by
        rw [hst.size]
        have := (Array.getElem?_eq_some_iff.1 ho).1
        simpa using this
      have h1 : listed[j]? = some false := by
        simp [Array.getD_eq_getD_getElem?, hlt] at h0
        simp [hlt, h0]
      have h2 := count_set listed.toList j (by simpa using h1)
      unfold left at hf
      omega
    exact ⟨hr, fin listed env σ a w hst hi hr⟩
  | succ fuel ih =>
    intro listed env σ a w hf hst hi
    refine ⟨fin listed env σ a w hst hi, fun i hr => ?_⟩
    obtain ⟨h0, o, ho, hp⟩ := mem_ready.1 hr
    have ho' : ops[i]? = some o := by simpa using ho
    have hlt : i < ops.length := (List.getElem?_eq_some_iff.1 ho').1
    have hsz : i < listed.size := by rw [hst.size]; exact hlt
    have h1 : listed[i]? = some false := by
      simp [Array.getD_eq_getD_getElem?, hsz] at h0
      simp [hsz, h0]
    have hn : ¬ lst listed i := by
      unfold lst
      simp [Array.getD_eq_getD_getElem?, h1]
    have hleft : left (listed.setIfInBounds i true) ≤ fuel := by
      have h2 := count_set listed.toList i (by simpa using h1)
      unfold left at hf ⊢
      rw [Array.toList_setIfInBounds]
      omega
    have hrd : ∀ (j : Nat) oj t, ops[j]? = some oj → oj.dst = some t → (j < i ∧ (bs.getD i 0).testBit j = true) → lst listed j ∧ j < i := fun j oj t h1 h2 h3 =>
      ⟨hst.bef hok (List.getElem?_eq_some_iff.1 h1).1 (i + 1) i o (by omega) ho' hp h3.2, h3.1⟩
    have hesi := ht.env hok i (by omega)
    have hev : ∀ x ∈ o.op.operands, ev G (es i) x = ev G env x := fun x hx => ev_congr fun t e => by
      subst e
      rw [List.getD_eq_getElem?_getD, List.getD_eq_getElem?_getD, hesi.same hst.env t fun j oj h1 h2 => ?_]
      have := hrd j oj t h1 h2 (hok.read i j o oj t ho' h1 (mem_tmps hx) h2)
      exact ⟨this.2, this.1⟩
    have hgv : gval ops (es i) o = gval ops env o := gval_congr fun j want oj t hg h1 h2 => hesi.same hst.env t fun j' oj' h3 h4 => by
      have e := hok.dst j' j oj' oj t h3 h1 h4 h2
      subst e
      have := hrd j' oj t h1 h2 (hok.guard i j' o want ho' hg)
      exact ⟨this.2, this.1⟩
    obtain ⟨hd, g, hx, hs, he⟩ := hi
    have hstep := ht.at hok ho'
    have hw : ∀ b, gval ops (es i) o = some b → Region.wanted o (yielded ops.toArray a.tmps) = b := fun b hb => gval_sound he (by rw [← hgv]; exact hb)
    unfold wpOpIn
    rw [ho]
    simp only
    rcases hstep with ⟨hb, hc, hss⟩ | ⟨hb, hstep⟩
    · rw [hw _ hb]
      simp only [Bool.false_eq_true, if_false]
      refine ⟨fun _ _ => trivial, ih _ (aput env o.dst (cs i)) σ _ _ hleft (hst.next hok ht ho' hn hp (fun hef => ?_) (fun _ => rfl)) ⟨by rw [put_defers]; exact hd, g, hx, hs, ?_⟩⟩
      · rw [hss]
        obtain ⟨o1, q1, q2, q3, q4⟩ := hef
        rw [ho'] at q1
        cases q1
        exact hst.here hok ht ho' hn hp q2 q3
      · rw [hc]
        exact he.put' o.dst (v := undef) (.tup [] #[] rfl (fun j c v h => by simp at h)) (fun i _ => ⟨trivial, fun cs vs e1 e2 k c' v' h3 h4 => by cases e1; simp at h3⟩) a rfl
    · rw [hw _ hb]
      simp only [if_true]
      have go : ∀ (σ' : AState), aopV P G o env σ (eqK (cs i) σ') → (effk ops cf i → σ' = sts (i + 1)) → (¬ effk ops cf i → σ' = σ) → o.wpIn (FW r) n P a w (wpAnyIn (FW r) n P .any ops.toArray (QInv g0 w0 D Q) fuel (listed.setIfInBounds i true)) (QInv g0 w0 D Q) := fun σ' hv k1 k2 => by
        refine stp_wpIn (aopV_sound hx hs he (hG.ext hx) hGp hd (KV := eqK (cs i) σ') (fun c σ2 a' w' hk hi' => ?_) hv) (fun c e => by unfold aopV at hv; rw [e] at hv; exact hv)
        obtain ⟨rfl, rfl⟩ := hk
        exact ih _ _ _ a' w' hleft (hst.next hok ht ho' hn hp k1 k2) hi'
      rcases hstep with ⟨⟨hc1, hc2⟩, hss, hv⟩ | ⟨hcc, hv⟩
      · have hne : ¬ effk ops cf i := fun ⟨_, _, _, h, _⟩ => by rw [hc1] at h; cases h
        exact go σ (aopV_congr hev (hv σ)) (fun h => absurd h hne) (fun _ => rfl)
      · by_cases hef : effk ops cf i
        · have hh : σ = sts i := by
            obtain ⟨o1, q1, q2, q3, q4⟩ := hef
            rw [ho'] at q1
            cases q1
            exact hst.here hok ht ho' hn hp q2 q3
          rw [← hh] at hv
          exact go _ (aopV_congr hev hv) (fun _ => rfl) (fun h => absurd hef h)
        · have hcalm := ht.calm hok ho' hef
          cases hqq : quiet o.op with
          | true =>
            obtain ⟨c, ⟨rfl, h3⟩, h4⟩ := aopV_quiet hqq hv
            exact go σ (aopV_congr hev (h4 σ)) (fun h => absurd h hef) (fun _ => rfl)
          | false =>
            cases hcf : cf.getD i false with
            | true =>
              have h3 := hok.call i o ho' hcf
              rw [hcc hcf] at h3
              cases h3
            | false =>
              have hh : σ = sts i := hst.here hok ht ho' hn hp hqq hcf
              rw [hcalm, ← hh] at hv
              exact go σ (aopV_congr hev hv) (fun h => absurd h hef) (fun _ => rfl)

/-- A region that draws its order. -/
theorem awD_sound (hG : GOK G g0) (hGp : GPl G) {env : AEnv} {σ : AState} {a : Act} {w : World} {id : Nat} {r : Option Nat} {n : Nat} (hm : P.follows .mixedOrders = true) (hok : okD ops bs cf = true) (h : awD P G ops Q (ops.zip cf) env σ) (hi : Inv g0 w0 D env σ a w) :
    (Code.region id ops.toArray true).wpIn (FW r) n P (QInv g0 w0 D Q) a w := by
  have hok' := Ok.of hok
  obtain ⟨cs, es, sts, ht, hq⟩ := awD_trace _ _ _ h
  have hlen : (ops.zip cf).length = ops.length := by simp [hok'.len]
  rw [hlen] at hq
  refine wpIn_region_any hm (any_run hG hGp hok' ht hq _ _ env σ a _ ?_ ⟨by simp, fun i o ho hl => ?_, ⟨rfl, fun t _ => rfl, fun t j o _ _ hl => ?_⟩, 0, Nat.zero_le _, by rw [ht.s0], fun k hk => ⟨fun hl => ?_, fun hl => by omega⟩⟩ (hi.drew _))
  · unfold left
    simp
  all_goals
    exfalso
    unfold lst at hl
    simp [Array.getD_eq_getD_getElem?, Array.getElem?_replicate] at hl
    split at hl <;> simp at hl

end
end Go.Proofs.Ytoofpdmdgofdcaa.E

namespace Go.Proofs.Ytoofpdmdgofdcaa.E
open Go Go.RowKit
set_option linter.unusedVariables false
set_option linter.unusedSimpArgs false

variable {P : Program}

/-- A mark that a range over a function has left among the deferred calls: its block holds no call. -/
def MarkOK (n : Nat) (g : Gh) (w : World) (m : Deferred) : Prop := ∃ b, m = { target := .collected b, args := #[] } ∧ n ≤ b ∧ w.heap[b]? = some (.deferred (some [])) ∧ (∀ id : Nat, g.ρ[id]? ≠ some b) ∧ g.ow b = none

def Marks (n : Nat) (g : Gh) (w : World) (ms : List Deferred) : Prop := (∀ m ∈ ms, MarkOK n g w m) ∧ ms.Pairwise fun m m' => m.target ≠ m'.target

def Inv2 (g0 : Gh) (w0 : World) (D : List Deferred) (env : AEnv) (σ : AState) (a : Act) (w : World) : Prop :=
  ∃ g ms, a.defers = ms ++ D ∧ Marks w0.heap.size g w ms ∧ Ext g0 w0 g w ∧ Sim g σ w ∧ EnvOK g env a.tmps

theorem Marks.nil (n : Nat) (g : Gh) (w : World) : Marks n g w [] := ⟨fun m h => by simp at h, .nil⟩

theorem Inv.two {g0 : Gh} {w0 : World} {D : List Deferred} {env : AEnv} {σ : AState} {a : Act} {w : World} (h : Inv g0 w0 D env σ a w) : Inv2 g0 w0 D env σ a w := by
  obtain ⟨hd, g, h1, h2, h3⟩ := h
  exact ⟨g, [], hd, Marks.nil _ _ _, h1, h2, h3⟩

/-- How a piece of code is left, marks and all. -/
def QInvM (g0 : Gh) (w0 : World) (D : List Deferred) (Q : AX → AEnv → AState → Prop) : Exit → Act → World → Prop
  | .normal, a, w => ∃ env σ, Q .normal env σ ∧ Inv2 g0 w0 D env σ a w
  | .exit id, a, w => ∃ env σ, Q (.exit id) env σ ∧ Inv2 g0 w0 D env σ a w
  | .goto l, a, w => ∃ env σ, Q (.goto l) env σ ∧ Inv2 g0 w0 D env σ a w
  | .ret, a, w => ∃ env σ, Q .ret env σ ∧ Inv2 g0 w0 D env σ a w
  | .panic ch, a, w => ∃ x v env σ g ms, ch = [{ v, recovered := false }] ∧ Q (.panic x) env σ ∧ a.defers = ms ++ D ∧ Marks w0.heap.size g w ms ∧ Ext g0 w0 g w ∧ Sim g σ w ∧ R g.S g.ρ x v
  | .outgrown, _, _ => False

theorem QInvM.of {g0 : Gh} {w0 : World} {D : List Deferred} {Q : AX → AEnv → AState → Prop} (e : Exit) (a : Act) (w : World) (q : QInv g0 w0 D Q e a w) : QInvM g0 w0 D Q e a w := by
  cases e with
  | normal => obtain ⟨e, s, k1, k2⟩ := q; exact ⟨e, s, k1, k2.two⟩
  | exit id => obtain ⟨e, s, k1, k2⟩ := q; exact ⟨e, s, k1, k2.two⟩
  | goto l => obtain ⟨e, s, k1, k2⟩ := q; exact ⟨e, s, k1, k2.two⟩
  | ret => obtain ⟨e, s, k1, k2⟩ := q; exact ⟨e, s, k1, k2.two⟩
  | panic ch => obtain ⟨x, v, e, s, g, k0, k1, k2, k3, k4, k5⟩ := q; exact ⟨x, v, e, s, g, [], k0, k1, k2, Marks.nil _ _ _, k3, k4, k5⟩
  | outgrown => exact q

theorem Marks.later {n : Nat} {g1 g2 : Gh} {w1 w2 : World} {ms : List Deferred} (h : Marks n g1 w1 ms) (hx : Ext g1 w1 g2 w2) : Marks n g2 w2 ms := by
  refine ⟨fun m hm => ?_, h.2⟩
  obtain ⟨b, h1, h2, h3, h4, h5⟩ := h.1 m hm
  have hlt := heap_lt h3
  refine ⟨b, h1, h2, ((hx.keep b hlt h4 h5).1).trans h3, fun id e => ?_, ?_⟩
  · rcases hx.newρ id b e with h6 | ⟨i0, h6⟩
    · omega
    · exact h4 i0 h6
  · cases e : g2.ow b with
    | none => rfl
    | some x =>
      rcases hx.newow b x e with h6 | h6
      · omega
      · exact absurd h5 h6

theorem Marks.app {n : Nat} {g1 g2 : Gh} {w1 w2 : World} {ms ms2 : List Deferred} (h : Marks n g1 w1 ms) (hx : Ext g1 w1 g2 w2) (h2 : Marks w1.heap.size g2 w2 ms2) (hn : n ≤ w1.heap.size) : Marks n g2 w2 (ms2 ++ ms) := by
  have h' := h.later hx
  refine ⟨fun m hm => ?_, List.pairwise_append.2 ⟨h2.2, h.2, fun x hx1 y hy1 e => ?_⟩⟩
  · rcases List.mem_append.1 hm with hm | hm
    · obtain ⟨b, k1, k2, k3⟩ := h2.1 m hm
      exact ⟨b, k1, by omega, k3⟩
    · exact h'.1 m hm
  · obtain ⟨b, k1, k2, k3⟩ := h2.1 x hx1
    obtain ⟨b', l1, l2, l3, l4⟩ := h.1 y hy1
    rw [k1, l1] at e
    cases e
    have := heap_lt l3
    omega

theorem Inv2.rebase {g0 g1 : Gh} {w0 w1 : World} {D ms : List Deferred} {env : AEnv} {σ : AState} {a : Act} {w : World} (hx : Ext g0 w0 g1 w1) (hm : Marks w0.heap.size g1 w1 ms) (h : Inv2 g1 w1 (ms ++ D) env σ a w) : Inv2 g0 w0 D env σ a w := by
  obtain ⟨g, ms2, k1, k2, k3, k4, k5⟩ := h
  exact ⟨g, ms2 ++ ms, by rw [k1, List.append_assoc], hm.app k3 k2 hx.size, hx.trans k3, k4, k5⟩

theorem QInvM.rebase {g0 g1 : Gh} {w0 w1 : World} {D ms : List Deferred} {Q : AX → AEnv → AState → Prop} (hx : Ext g0 w0 g1 w1) (hm : Marks w0.heap.size g1 w1 ms) (e : Exit) (a : Act) (w : World) (q : QInvM g1 w1 (ms ++ D) Q e a w) : QInvM g0 w0 D Q e a w := by
  cases e with
  | normal => obtain ⟨e, s, k1, k2⟩ := q; exact ⟨e, s, k1, k2.rebase hx hm⟩
  | exit id => obtain ⟨e, s, k1, k2⟩ := q; exact ⟨e, s, k1, k2.rebase hx hm⟩
  | goto l => obtain ⟨e, s, k1, k2⟩ := q; exact ⟨e, s, k1, k2.rebase hx hm⟩
  | ret => obtain ⟨e, s, k1, k2⟩ := q; exact ⟨e, s, k1, k2.rebase hx hm⟩
  | panic ch =>
    obtain ⟨x, v, e, s, g, ms2, k0, k1, k2, k3, k4, k5, k6⟩ := q
    exact ⟨x, v, e, s, g, ms2 ++ ms, k0, k1, by rw [k2, List.append_assoc], hm.app k4 k3 hx.size, hx.trans k4, k5, k6⟩
  | outgrown => exact q

/-- The code, run from such an abstract state, ends as Q says ('rs': in which frames: a plain one, or a round's). -/
def AWp (P : Program) (rs : Option Nat → Prop) (G : Nat → AV) (c : Code) (Q : AX → AEnv → AState → Prop) (env : AEnv) (σ : AState) : Prop :=
  ∀ (g0 : Gh) (w0 : World) (D : List Deferred) (r : Option Nat) (n : Nat) (a : Act) (w : World), rs r → GPl G → GOK G g0 → Inv g0 w0 D env σ a w → c.wpIn (FW r) n P (QInvM g0 w0 D Q) a w

/-- The same, from a state with marks. -/
theorem AWp.two {P : Program} {rs : Option Nat → Prop} {G : Nat → AV} {c : Code} {Q : AX → AEnv → AState → Prop} {env : AEnv} {σ : AState} (h : AWp P rs G c Q env σ) {g0 : Gh} {w0 : World} {D : List Deferred} {r : Option Nat} {n : Nat} {a : Act} {w : World} (hr : rs r) (h1 : GPl G) (h2 : GOK G g0) (hi : Inv2 g0 w0 D env σ a w) :
    c.wpIn (FW r) n P (QInvM g0 w0 D Q) a w := by
  obtain ⟨g, ms, k1, k2, k3, k4, k5⟩ := hi
  exact wpIn_mono (h g w (ms ++ D) r n a w hr h1 (h2.ext k3) ⟨k1, g, Ext.refl g w, k4, k5⟩) (QInvM.rebase k3 k2)

def thenQ (K : AEnv → AState → Prop) (Q : AX → AEnv → AState → Prop) : AX → AEnv → AState → Prop
  | .normal => K
  | x => Q x

def blockQ (id : Nat) (Q : AX → AEnv → AState → Prop) : AX → AEnv → AState → Prop
  | .exit i => if i = id then Q .normal else Q (.exit i)
  | x => Q x

section
variable {rs : Option Nat → Prop} {G : Nat → AV} {Q : AX → AEnv → AState → Prop} {env : AEnv} {σ : AState}

theorem AWp.mono {c : Code} {Q' : AX → AEnv → AState → Prop} (h : AWp P rs G c Q env σ) (hq : ∀ x e s, Q x e s → Q' x e s) : AWp P rs G c Q' env σ := fun g0 w0 D r n a w hr h1 h2 h3 =>
  wpIn_mono (h g0 w0 D r n a w hr h1 h2 h3) fun e a' w' q => by
    cases e with
    | normal => obtain ⟨e, s, k1, k2⟩ := q; exact ⟨e, s, hq _ _ _ k1, k2⟩
    | exit id => obtain ⟨e, s, k1, k2⟩ := q; exact ⟨e, s, hq _ _ _ k1, k2⟩
    | goto l => obtain ⟨e, s, k1, k2⟩ := q; exact ⟨e, s, hq _ _ _ k1, k2⟩
    | ret => obtain ⟨e, s, k1, k2⟩ := q; exact ⟨e, s, hq _ _ _ k1, k2⟩
    | panic ch => obtain ⟨x, v, e, s, g, ms, k0, k1, k2⟩ := q; exact ⟨x, v, e, s, g, ms, k0, hq _ _ _ k1, k2⟩
    | outgrown => exact q

theorem AWp.skip (h : Q .normal env σ) : AWp P rs G .skip Q env σ := fun g0 w0 D r n a w hr h1 h2 h3 => wpIn_skip ⟨env, σ, h, h3.two⟩

theorem AWp.label {l : Nat} (h : Q .normal env σ) : AWp P rs G (.label l) Q env σ := fun g0 w0 D r n a w hr h1 h2 h3 => wpIn_label ⟨env, σ, h, h3.two⟩

theorem AWp.exit {id : Nat} (h : Q (.exit id) env σ) : AWp P rs G (.exit id) Q env σ := fun g0 w0 D r n a w hr h1 h2 h3 => wpIn_exit ⟨env, σ, h, h3.two⟩

theorem AWp.ret (h : Q .ret env σ) : AWp P rs G .ret Q env σ := fun g0 w0 D r n a w hr h1 h2 h3 => wpIn_ret ⟨env, σ, h, h3.two⟩

theorem AWp.text {id : Nat} {ops : List Oper} (h : awOps P G ops Q ops env σ) : AWp P rs G (.region id ⟨ops⟩ false) Q env σ := fun g0 w0 D r n a w hr h1 h2 h3 => by
  apply Go.wpIn_mono (Q := QInv g0 w0 D Q) (hq := QInvM.of)
  apply wpIn_region
  have := awOps_sound (r := r) (n := n) h2 h1 ops 0 env σ a w (fun j => by simp) h h3
  rw [List.range_eq_range']
  exact this

theorem AWp.draw {id : Nat} {ops : List Oper} (bs : List Nat) (cf : List Bool) (hm : P.follows .mixedOrders = true) (hok : okD ops bs cf = true) (h : awD P G ops Q (ops.zip cf) env σ) : AWp P rs G (.region id ⟨ops⟩ true) Q env σ := fun g0 w0 D r n a w hr h1 h2 h3 =>
  Go.wpIn_mono (awD_sound h2 h1 hm hok h h3) QInvM.of

theorem AWp.seq {x y : Code} (h : AWp P rs G x (thenQ (AWp P rs G y Q) Q) env σ) : AWp P rs G (.seq x y) Q env σ := fun g0 w0 D r n a w hr h1 h2 h3 =>
  wpIn_seq (wpIn_mono (h g0 w0 D r n a w hr h1 h2 h3) fun e a' w' q => by
    cases e with
    | normal => obtain ⟨e, s, k1, k2⟩ := q; exact k1.two hr h1 h2 k2
    | exit id => exact q
    | goto l => exact q
    | ret => exact q
    | panic ch => exact q
    | outgrown => exact q)

theorem AWp.block {id : Nat} {x : Code} (h : AWp P rs G x (blockQ id Q) env σ) : AWp P rs G (.block id x) Q env σ := fun g0 w0 D r n a w hr h1 h2 h3 =>
  wpIn_block (wpIn_mono (h g0 w0 D r n a w hr h1 h2 h3) fun e a' w' q => by
    cases e with
    | normal => exact q
    | exit i =>
      obtain ⟨e, s, k1, k2⟩ := q
      simp only [Exit.inBlock]
      by_cases hi : i = id
      · simp only [hi, if_true]
        simp only [blockQ, hi, if_true] at k1
        exact ⟨e, s, k1, k2⟩
      · simp only [hi, if_false]
        simp only [blockQ, hi, if_false] at k1
        exact ⟨e, s, k1, k2⟩
    | goto l => exact q
    | ret => exact q
    | panic ch => exact q
    | outgrown => exact q)

theorem AWp.cond {x : Operand} {p q : Code} {b : Bool} (hc : ev G env x = .b b) (h : b = true → AWp P rs G p Q env σ) (h' : b = false → AWp P rs G q Q env σ) : AWp P rs G (.cond x p q) Q env σ := fun g0 w0 D r n a w hr h1 h2 h3 => by
  have h3' := h3
  obtain ⟨hd, g, hx, hs, he⟩ := h3
  have hr := R.ev (h2.ext hx) he x
  rw [hc] at hr
  generalize hv : a.eval x = v at hr
  cases hr
  refine wpIn_cond (t := b) hv ?_
  cases b with
  | true => exact h rfl g0 w0 D r n a w hr h1 h2 h3'
  | false => exact h' rfl g0 w0 D r n a w hr h1 h2 h3'

/-- What is forgotten. -/
def W1 (a b : AV) : Prop := b = .u ∨ b = a ∨ b = a.pl

def Weak : List AV → List AV → Prop
  | [], [] => True
  | a :: as, b :: bs => W1 a b ∧ Weak as bs
  | _, _ => False

theorem Weak.refl : ∀ l, Weak l l
  | [] => trivial
  | a :: l => ⟨.inr (.inl rfl), Weak.refl l⟩

theorem Weak.len : ∀ {l l' : List AV}, Weak l l' → l'.length = l.length
  | [], [], _ => rfl
  | a :: l, b :: l', h => by simp [Weak.len h.2]

theorem Weak.get : ∀ {l l' : List AV}, Weak l l' → ∀ (i : Nat) (b : AV), l'[i]? = some b → ∃ a, l[i]? = some a ∧ W1 a b
  | [], [], _, i, b, h => by simp at h
  | a :: l, b :: l', hw, 0, c, h => by simp at h; subst h; exact ⟨a, rfl, hw.1⟩
  | a :: l, b :: l', hw, i + 1, c, h => by simpa using Weak.get hw.2 i c (by simpa using h)

theorem W1.R {a b : AV} {S : Imm} {ρ : List Nat} {v : Value} (h : W1 a b) (hr : R S ρ a v) : R S ρ b v := by
  rcases h with rfl | rfl | rfl
  · exact .u v
  · exact hr
  · exact hr.pl

theorem W1.own {a b : AV} {g : Gh} {s : Slot} {v : Value} (h : W1 a b) (hr : OwnOK g s a v) : OwnOK g s b v := by
  rcases h with rfl | rfl | rfl
  · trivial
  · exact hr
  · exact ownOK_pl _ _ _ _

theorem W1.top {a b : AV} {g : Gh} {i : Nat} {v : Value} (h : W1 a b) (hr : TopOwn g i a v) : TopOwn g i b v := by
  rcases h with rfl | rfl | rfl
  · exact ⟨trivial, fun cs vs e => by cases e⟩
  · exact hr
  · exact topOwn_pl _ _ _ _

theorem EnvOK.weak {g : Gh} {env env' : AEnv} {tmps : Array Value} (h : EnvOK g env tmps) (hw : Weak env env') : EnvOK g env' tmps :=
  ⟨by rw [h.1, hw.len], fun i c v hc hv => by
    obtain ⟨a, h1, h2⟩ := hw.get i c hc
    have h3 := h.2 i a v h1 hv
    exact ⟨h2.R h3.1, h2.top h3.2⟩⟩

def WeakO : AObj → AObj → Prop
  | .cells a, .cells b => Weak a b
  | a, b => a = b

def WeakS : AState → AState → Prop
  | [], [] => True
  | a :: as, b :: bs => WeakO a b ∧ WeakS as bs
  | _, _ => False

theorem WeakO.refl (a : AObj) : WeakO a a := by
  cases a with
  | cells cs => exact Weak.refl cs
  | map es => exact rfl
  | loop r es => exact rfl
  | it itn its es => exact rfl

theorem WeakS.refl : ∀ l, WeakS l l
  | [] => trivial
  | a :: l => ⟨WeakO.refl a, WeakS.refl l⟩

theorem WeakS.app : ∀ (l : AState) {m m' : AState}, WeakS m m' → WeakS (l ++ m) (l ++ m')
  | [], _, _, h => h
  | a :: l, _, _, h => ⟨WeakO.refl a, WeakS.app l h⟩

theorem WeakS.len : ∀ {l l' : AState}, WeakS l l' → l'.length = l.length
  | [], [], _ => rfl
  | a :: l, b :: l', h => by simp [WeakS.len h.2]

theorem WeakS.get : ∀ {l l' : AState}, WeakS l l' → ∀ (i : Nat) (b : AObj), l'[i]? = some b → ∃ a, l[i]? = some a ∧ WeakO a b
  | [], [], _, i, b, h => by simp at h
  | a :: l, b :: l', hw, 0, c, h => by simp at h; subst h; exact ⟨a, rfl, hw.1⟩
  | a :: l, b :: l', hw, i + 1, c, h => by simpa using WeakS.get hw.2 i c (by simpa using h)

theorem Sim.weak {g : Gh} {σ σ' : AState} {w : World} (h : Sim g σ w) (hw : WeakS σ σ') : Sim g σ' w where
  imm := h.imm
  len := by rw [h.len, hw.len]
  inj := h.inj
  own := h.own
  obj := fun id o ho => by
    obtain ⟨a, h1, h2⟩ := hw.get id o ho
    have h3 := h.obj id a h1
    cases a with
    | cells cs =>
      cases o with
      | cells cs' =>
        obtain ⟨b1, vs, E, fr, m2, m3, m4, m5, m6, m7, m8⟩ := h3
        have h2' : Weak cs cs' := h2
        refine ⟨b1, vs, E, fr, m2, m3, by rw [m4, h2'.len], m5, m6, m7, fun j c v hc hv => ?_⟩
        obtain ⟨a, k1, k2⟩ := h2'.get j c hc
        exact ⟨k2.R (m8 j a v k1 hv).1, k2.own (m8 j a v k1 hv).2⟩
      | map es => simp [WeakO] at h2
      | loop r es => simp [WeakO] at h2
      | it itn its es => simp [WeakO] at h2
    | map es =>
      have h2' : AObj.map es = o := h2
      subst h2'
      exact h3
    | loop r es =>
      have h2' : AObj.loop r es = o := h2
      subst h2'
      exact h3
    | it itn its es =>
      have h2' : AObj.it itn its es = o := h2
      subst h2'
      exact h3

theorem Inv2.weak {g0 : Gh} {w0 : World} {D : List Deferred} {env env' : AEnv} {σ σ' : AState} {a : Act} {w : World} (h : Inv2 g0 w0 D env σ a w) (he : Weak env env') (hs : WeakS σ σ') : Inv2 g0 w0 D env' σ' a w := by
  obtain ⟨g, ms, hd, hm, hx, h1, h2⟩ := h
  exact ⟨g, ms, hd, hm, hx, h1.weak hs, h2.weak he⟩

theorem Inv.weak {g0 : Gh} {w0 : World} {D : List Deferred} {env env' : AEnv} {σ σ' : AState} {a : Act} {w : World} (h : Inv g0 w0 D env σ a w) (he : Weak env env') (hs : WeakS σ σ') : Inv g0 w0 D env' σ' a w := by
  obtain ⟨hd, g, hx, h1, h2⟩ := h
  exact ⟨hd, g, hx, h1.weak hs, h2.weak he⟩

theorem AWp.weak {c : Code} {env' : AEnv} {σ' : AState} (h : AWp P rs G c Q env' σ') (he : Weak env env') (hs : WeakS σ σ') : AWp P rs G c Q env σ := fun g0 w0 D r n a w hr h1 h2 h3 => h g0 w0 D r n a w hr h1 h2 (h3.weak he hs)

/-- The state again, where a round has ended. -/
def Again {α : Type} (inv : α → Prop) (μ : α → Nat) (I : α → AEnv) (J : α → AState) (m : Nat) (env : AEnv) (σ : AState) : Prop := ∃ x, inv x ∧ μ x < m ∧ Weak env (I x) ∧ WeakS σ (J x)

theorem AWp.loop {α : Type} {c : Code} (inv : α → Prop) (μ : α → Nat) (I : α → AEnv) (J : α → AState) (x0 : α) (h0 : inv x0) (he : Weak env (I x0)) (hs : WeakS σ (J x0))
    (round : ∀ x, inv x → AWp P rs G c (thenQ (Again inv μ I J (μ x)) Q) (I x) (J x)) : AWp P rs G (.loop c) Q env σ := fun g0 w0 D r n a w hr h1 h2 h3 => by
  refine wpIn_loop_ghost (fun m a w => ∃ x, inv x ∧ μ x = m ∧ Inv2 g0 w0 D (I x) (J x) a w) (μ x0) ⟨x0, h0, rfl, (h3.weak he hs).two⟩ ?_
  rintro m a w ⟨x, k1, rfl, k2⟩
  refine wpIn_mono ((round x k1).two hr h1 h2 k2) fun e a' w' q => ?_
  cases e with
  | normal =>
    obtain ⟨e, s, ⟨x', q1, q2, q3, q4⟩, q5⟩ := q
    exact ⟨μ x', q2, x', q1, rfl, q5.weak q3 q4⟩
  | exit id => exact q
  | goto l => exact q
  | ret => exact q
  | panic ch => exact q
  | outgrown => exact q

end
end Go.Proofs.Ytoofpdmdgofdcaa.E

namespace Go.Proofs.Ytoofpdmdgofdcaa.E
open Go Go.RowKit
set_option linter.unusedVariables false
set_option linter.unusedSimpArgs false

variable {P : Program}

/-- The results, read at the end. -/
def aresults (P : Program) (env : AEnv) (σ : AState) : List ResultVar → (List AV → Prop) → Prop
  | [], K => K []
  | .tmp t :: r, K => aresults P env σ r fun cs => K (env.getD t .u :: cs)
  | .cell a t :: r, K => (∃ id off, env.getD a .u = .pm id off) ∧ aload P σ t (env.getD a .u) fun c => aresults P env σ r fun cs => K (c :: cs)

def AV.nt : AV → AV
  | .tup _ => .u
  | c => c

def retV : List AV → AV
  | [c] => c.nt
  | cs => .tup cs

/-- Whose results are temporaries: which. -/
def resT : List ResultVar → List Nat
  | [] => []
  | .tmp t :: r => t :: resT r
  | .cell _ _ :: r => resT r

/-- The owners after the return. -/
def retOw (ps : Nat → Option Nat) (ow : Nat → Option (Slot × Nat × Nat)) : Nat → Option (Slot × Nat × Nat) := fun bk => match ow bk with
  | some (.o id j, x) => some (.o id j, x)
  | some (.t i 0, x) => match ps i with
    | some k => some (.t 0 k, x)
    | none => none
  | _ => none

section
variable {G : Nat → AV} {Q : ARes → AState → Prop} {env : AEnv} {σ : AState} {g : Gh} {w : World} {tmps : Array Value}

theorem retOw_o {ps : Nat → Option Nat} {ow : Nat → Option (Slot × Nat × Nat)} {bk id j : Nat} {x : Nat × Nat} (h : ow bk = some (.o id j, x)) : retOw ps ow bk = some (.o id j, x) := by
  unfold retOw
  rw [h]

theorem retOw_some {ps : Nat → Option Nat} {ow : Nat → Option (Slot × Nat × Nat)} {bk : Nat} {s : Slot} {x : Nat × Nat} (h : retOw ps ow bk = some (s, x)) : (∃ s0, ow bk = some (s0, x)) ∧ ((∃ id j, s = .o id j) ∨ ∃ k, s = .t 0 k) := by
  unfold retOw at h
  split at h
  · rename_i h1; cases h; exact ⟨⟨_, h1⟩, .inl ⟨_, _, rfl⟩⟩
  · rename_i h1
    split at h
    · cases h; exact ⟨⟨_, h1⟩, .inr ⟨_, rfl⟩⟩
    · cases h
  · cases h

theorem retOw_sub {ps : Nat → Option Nat} {ow : Nat → Option (Slot × Nat × Nat)} {bk : Nat} (h : ow bk = none) : retOw ps ow bk = none := by
  unfold retOw
  rw [h]

theorem Sim.retOw (hs : Sim g σ w) (ps : Nat → Option Nat) : Sim { g with ow := E.retOw ps g.ow } σ w :=
  hs.re_own _ (fun bk x h => by
      obtain ⟨⟨s0, h1⟩, _⟩ := retOw_some (s := x.1) (x := x.2) h
      exact ⟨s0, h1⟩)
    (fun bk id j h e => retOw_o e)

theorem Ext.retOw (ps : Nat → Option Nat) : Ext g w { g with ow := E.retOw ps g.ow } w where
  os := rfl
  tape := rfl
  output := rfl
  size := Nat.le_refl _
  S := fun _ _ _ h => h
  ρ := fun _ _ h => h
  keep := fun _ _ _ _ => ⟨rfl, fun _ => rfl⟩
  newρ := fun id _ h => .inr ⟨id, h⟩
  newow := fun bk x h => .inr (fun e => by
    have h : E.retOw ps g.ow bk = some x := h
    rw [retOw_sub e] at h
    cases h)

theorem OwnOK.retOw {ps : Nat → Option Nat} {i k : Nat} {c : AV} {v : Value} (h : OwnOK g (.t i 0) c v) (hp : ps i = some k) : OwnOK { g with ow := E.retOw ps g.ow } (.t 0 k) c v :=
  h.mono fun bk x e => by simp [E.retOw, e, hp]

def rstep (tmps : Array Value) : ResultVar → Sem Value
  | .tmp t => pure (tmps.getD t undef)
  | .cell a t => do loadVar t (← asAddr (tmps.getD a undef))

/-- The machine's results. -/
def mres (P : Program) (w : World) (tmps : Array Value) : List ResultVar → List Value → Prop
  | [], vs => vs = []
  | r :: rs, vs => ∃ u us, (rstep tmps r).run P w = .ok u w ∧ mres P w tmps rs us ∧ vs = u :: us

theorem run_mres {f : ResultVar → Sem Value} (hf : ∀ r, f r = rstep tmps r) : ∀ {rs : List ResultVar} {vs : List Value}, mres P w tmps rs vs → (rs.mapM f).run P w = .ok vs w
  | [], vs, h => by
    have h : vs = [] := h
    subst h
    simp
  | r :: rs, vs, h => by
    obtain ⟨u, us, h1, h2, rfl⟩ := h
    rw [List.mapM_cons]
    simp only [hf, Sem.run_bind, h1, Sem.run_pure, Result.andThen_ok, run_mres hf h2]

def valOf (vs : List Value) : Value :=
  match vs with
  | [v] => v
  | vs => .tuple ⟨vs⟩

theorem run_results {fn : Func} {vs : List Value} (h : mres P w tmps fn.results.toList vs) : (results fn tmps).run P w = .ok (valOf vs) w := by
  unfold results
  rw [Array.mapM_eq_mapM_toList]
  simp only [Sem.run_bind, Sem.run_map]
  rw [run_mres (tmps := tmps) ?hf h]
  case hf => intro r; cases r <;> rfl
  simp only [Result.andThen_ok, Sem.run_pure]
  match vs with
  | [] => rfl
  | [v] => rfl
  | v :: v' :: r => rfl

theorem Pl.own {c : AV} (h : Pl c) (g : Gh) (s : Slot) (v : Value) : OwnOK g s c v := by
  cases c with
  | sl o n cs =>
    cases o with
    | yes z =>
      have := (h ⟨fun _ _ => none, [], fun _ => none⟩ 0 (.slice (some ⟨0, 0, none⟩) 0 1)).1
      simp [OwnOK] at this
    | _ => simp [OwnOK]
  | _ => simp [OwnOK]

theorem aresults_sound (hs : Sim g σ w) (he : EnvOK g env tmps) : ∀ {rs : List ResultVar} {K : List AV → Prop}, aresults P env σ rs K →
    ∃ cs vs, mres P w tmps rs vs ∧ cs.length = rs.length ∧ vs.length = rs.length ∧ (∀ (j : Nat) (c : AV) (v : Value), cs[j]? = some c → vs[j]? = some v → R g.S g.ρ c v ∧ (Pl c ∨ ∃ t, rs[j]? = some (.tmp t) ∧ TopOwn g t c v)) ∧ K cs
  | [], K, h => ⟨[], [], rfl, rfl, rfl, fun j c v h => by simp at h, h⟩
  | .tmp t :: rs, K, h => by
    obtain ⟨cs, vs, h1, h2, h3, h4, h5⟩ := aresults_sound hs he (rs := rs) h
    refine ⟨env.getD t .u :: cs, tmps.getD t undef :: vs, ⟨_, _, by simp [rstep], h1, rfl⟩, by simp [h2], by simp [h3], fun j c v hc hv => ?_, h5⟩
    cases j with
    | zero =>
      simp only [List.getElem?_cons_zero, Option.some.injEq] at hc hv
      subst hc
      subst hv
      exact ⟨he.get t, .inr ⟨t, rfl, topOwn_get he t⟩⟩
    | succ j =>
      simp only [List.getElem?_cons_succ] at hc hv ⊢
      exact h4 j c v hc hv
  | .cell a t :: rs, K, h => by
    obtain ⟨⟨id, off, hpm⟩, h⟩ := h
    have hr := he.get a
    rw [hpm] at hr
    rw [hpm] at h
    generalize hv : tmps.getD a undef = pv at hr
    cases hr with
    | pm _ _ bk hb =>
    obtain ⟨c0, v0, k1, k2, k3, k4⟩ := aload_sound hs (.pm id off bk hb) ⟨bk, off, rfl⟩ h
    obtain ⟨cs, vs, h1, h2, h3, h4, h5⟩ := aresults_sound hs he (rs := rs) k4
    refine ⟨c0 :: cs, v0 :: vs, ⟨_, _, ?_, h1, rfl⟩, by simp [h2], by simp [h3], fun j c v hc hv => ?_, h5⟩
    · rw [← k1]
      simp only [rstep, hv, asAddr, Instr.loadAt, Instr.sureAddr, pure_bind]
    cases j with
    | zero =>
      simp only [List.getElem?_cons_zero, Option.some.injEq] at hc hv
      subst hc
      subst hv
      exact ⟨k2, .inl k3⟩
    | succ j =>
      simp only [List.getElem?_cons_succ] at hc hv ⊢
      exact h4 j c v hc hv

def psL : List ResultVar → Nat → Nat → Option Nat
  | [], _, _ => none
  | .tmp u :: r, k, t => if u = t then some k else psL r (k + 1) t
  | .cell _ _ :: r, k, t => psL r (k + 1) t

theorem resT_mem {t : Nat} : ∀ {rs : List ResultVar} {j : Nat}, rs[j]? = some (.tmp t) → t ∈ resT rs
  | [], j, h => by simp at h
  | .tmp u :: r, 0, h => by simp at h; subst h; simp [resT]
  | .cell _ _ :: r, 0, h => by simp at h
  | .tmp u :: r, j + 1, h => by simp only [resT, List.mem_cons]; exact .inr (resT_mem (by simpa using h))
  | .cell _ _ :: r, j + 1, h => by simp only [resT]; exact resT_mem (by simpa using h)

theorem psL_at {t : Nat} : ∀ {rs : List ResultVar} {j k : Nat}, (resT rs).Nodup → rs[j]? = some (.tmp t) → psL rs k t = some (k + j)
  | [], j, k, _, h => by simp at h
  | .tmp u :: r, 0, k, _, h => by simp at h; subst h; simp [psL]
  | .cell _ _ :: r, 0, k, _, h => by simp at h
  | .tmp u :: r, j + 1, k, hn, h => by
    simp only [resT, List.nodup_cons] at hn
    have h' : r[j]? = some (.tmp t) := by simpa using h
    have : u ≠ t := fun e => hn.1 (e ▸ resT_mem h')
    simp only [psL, this, if_false]
    rw [psL_at hn.2 h']
    congr 1
    omega
  | .cell _ _ :: r, j + 1, k, hn, h => by
    simp only [resT] at hn
    simp only [psL]
    rw [psL_at hn (by simpa using h)]
    congr 1
    omega

theorem R.nt {S : Imm} {ρ : List Nat} {c : AV} {v : Value} (h : R S ρ c v) : R S ρ c.nt v := by
  cases c with
  | tup cs => exact .u v
  | _ => exact h

/-- What a function's end gives its caller: the state as it stands. -/
theorem ret_post (hs : Sim g σ w) (he : EnvOK g env tmps) {fn : Func} (hn : (resT fn.results.toList).Nodup) {K : List AV → Prop} (h : aresults P env σ fn.results.toList K) :
    ∃ cs v g', (results fn tmps).run P w = .ok v w ∧ K cs ∧ Ext g w g' w ∧ Sim g' σ w ∧ R g'.S g'.ρ (retV cs) v ∧ TopOwn g' 0 (retV cs) v ∧ OnlyR g' ∧ g'.S = g.S ∧ g'.ρ = g.ρ := by
  obtain ⟨cs, vs, h1, h2, h3, h4, h5⟩ := aresults_sound (P := P) hs he h
  by_cases hone : ∃ r, fn.results.toList = [r]
  · obtain ⟨r, hr⟩ := hone
    rw [hr] at h2 h3 h4
    match cs, vs, h2, h3 with
    | [c], [v], _, _ =>
      refine ⟨[c], v, _, by rw [run_results h1]; rfl, h5, Ext.retOw (psL [r] 0), hs.retOw _, ?_, ?_, ?_, rfl, rfl⟩
      · exact (h4 0 c v rfl rfl).1.nt
      · show TopOwn _ 0 c.nt v
        have hown := (h4 0 c v rfl rfl).2
        refine topOwn_of ?_ (fun cs' e => by cases c <;> simp [AV.nt] at e)
        have key : OwnOK { g with ow := E.retOw (psL [r] 0) g.ow } (.t 0 0) c v := by
          rcases hown with hp | ⟨t, ht, hto⟩
          · exact hp.own _ _ _
          · simp at ht
            subst ht
            exact hto.1.retOw (by simp [psL])
        cases c with
        | tup _ => trivial
        | _ => exact key
      · intro bk s x hh
        have := (retOw_some (ps := psL [r] 0) (ow := g.ow) (s := s) (x := x) hh).2
        exact this
  · have hrv : retV cs = .tup cs := by
      match cs, h2 with
      | [], _ => rfl
      | [c], h2 =>
        exfalso
        apply hone
        match hl : fn.results.toList, h2 with
        | [r], _ => exact ⟨r, rfl⟩
      | c :: c' :: r, _ => rfl
    have hvv : valOf vs = .tuple ⟨vs⟩ := by
      match vs, h3 with
      | [], _ => rfl
      | [c], h3 =>
        exfalso
        apply hone
        match hl : fn.results.toList, h3 with
        | [r], _ => exact ⟨r, rfl⟩
      | c :: c' :: r, _ => rfl
    refine ⟨cs, .tuple ⟨vs⟩, _, by rw [run_results h1, hvv], h5, Ext.retOw (psL fn.results.toList 1), hs.retOw _, ?_, ?_, ?_, rfl, rfl⟩
    · rw [hrv]
      exact .tup cs ⟨vs⟩ (by simp [h2, h3]) fun j c v hc hv => (h4 j c v hc (by simpa using hv)).1
    · rw [hrv]
      refine ⟨trivial, fun cs' vs' e1 e2 k c v hc hv => ?_⟩
      cases e1
      cases e2
      rcases (h4 k c v hc (by simpa using hv)).2 with hp | ⟨t, ht, hto⟩
      · exact hp.own _ _ _
      · exact hto.1.retOw (by rw [psL_at hn ht, Nat.add_comm])
    · intro bk s x hh
      have := (retOw_some (ps := psL fn.results.toList 1) (ow := g.ow) (s := s) (x := x) hh).2
      exact this

end
end Go.Proofs.Ytoofpdmdgofdcaa.E

namespace Go.Proofs.Ytoofpdmdgofdcaa.E
open Go Go.RowKit
set_option linter.unusedVariables false
set_option linter.unusedSimpArgs false

variable {P : Program}

mutual
/-- Nothing is named but the first n objects. -/
def clean (n : Nat) : AV → Bool
  | .agg cs => cleanL n cs
  | .tup cs => cleanL n cs
  | .sl _ _ cs => cleanL n cs
  | .sm id _ _ _ _ => decide (id < n)
  | .pi cs _ => cleanL n cs
  | .pm id _ => decide (id < n)
  | .mp id => decide (id < n)
  | .yl id => decide (id < n)
  | .fn _ cs => cleanL n cs
  | .ifc _ x => clean n x
  | _ => true
def cleanL (n : Nat) : List AV → Bool
  | [] => true
  | c :: cs => clean n c && cleanL n cs
end

theorem cleanL_iff {n : Nat} : ∀ {cs : List AV}, cleanL n cs = true ↔ ∀ (j : Nat) (c : AV), cs[j]? = some c → clean n c = true
  | [] => by simp [cleanL]
  | c :: cs => by
    simp only [cleanL, Bool.and_eq_true, cleanL_iff (cs := cs)]
    constructor
    · rintro ⟨h1, h2⟩ j d hd
      cases j with
      | zero => simp at hd; subst hd; exact h1
      | succ j => exact h2 j d (by simpa using hd)
    · intro h
      exact ⟨h 0 c rfl, fun j d hd => h (j + 1) d (by simpa using hd)⟩

theorem cleanL_of {n : Nat} {cs : List AV} (h : ∀ c ∈ cs, clean n c = true) : cleanL n cs = true := cleanL_iff.2 fun j c hc => h c (List.mem_of_getElem? hc)

theorem R.clean {S : Imm} {ρ : List Nat} {c : AV} {v : Value} (h : R S ρ c v) : clean ρ.length c = true := by
  have lt : ∀ {id bk : Nat}, ρ[id]? = some bk → id < ρ.length := fun e => (List.getElem?_eq_some_iff.1 e).1
  induction h with
  | agg cs vs hl h ih => simp only [E.clean]; exact cleanL_iff.2 fun j c hc => ih j c vs[j]! hc (by
      have : j < vs.size := by rw [hl]; exact (List.getElem?_eq_some_iff.1 hc).1
      simp [this])
  | tup cs vs hl h ih => simp only [E.clean]; exact cleanL_iff.2 fun j c hc => ih j c vs[j]! hc (by
      have : j < vs.size := by rw [hl]; exact (List.getElem?_eq_some_iff.1 hc).1
      simp [this])
  | sl o ho n cs bk off cap hn hc vs h1 h ih => simp only [E.clean]; exact cleanL_iff.2 fun j c hc => ih j c hc
  | sm id off n cap z bk hb hn hc => simp [E.clean, lt hb]
  | pi cs k bk off vs h1 h ih => simp only [E.clean]; exact cleanL_iff.2 fun j c hc => ih j c hc
  | pm id off bk hb => simp [E.clean, lt hb]
  | mp id bk hb => simp [E.clean, lt hb]
  | yl id bk hb => simp [E.clean, lt hb]
  | fn f cs vs hl h ih => simp only [E.clean]; exact cleanL_iff.2 fun j c hc => ih j c vs[j]! hc (by
      have : j < vs.size := by rw [hl]; exact (List.getElem?_eq_some_iff.1 hc).1
      simp [this])
  | ifc t x v h ih => simpa [E.clean] using ih
  | val x => simp [E.clean]
  | sl0 o => simp [E.clean, cleanL]
  | _ => simp [E.clean]

theorem R.take {S : Imm} {ρ ρ' : List Nat} {n : Nat} {c : AV} {v : Value} (h : R S ρ c v) (hc : E.clean n c = true) (hρ : ∀ (id bk : Nat), id < n → ρ[id]? = some bk → ρ'[id]? = some bk) : R S ρ' c v := by
  induction h with
  | u v => exact .u v
  | b x => exact .b x
  | i k n h => exact .i k n h
  | s l h => exact .s l h
  | nilp => exact .nilp
  | nilfn => exact .nilfn
  | nilif => exact .nilif
  | nilmap => exact .nilmap
  | agg cs vs hl _ ih => exact .agg cs vs hl fun j c v h1 h2 => ih j c v h1 h2 (cleanL_iff.1 (by simpa [E.clean] using hc) j c h1)
  | tup cs vs hl _ ih => exact .tup cs vs hl fun j c v h1 h2 => ih j c v h1 h2 (cleanL_iff.1 (by simpa [E.clean] using hc) j c h1)
  | sl0 o => exact .sl0 o
  | sl o ho n cs bk off cap hn hcap vs h1 _ ih => exact .sl o ho n cs bk off cap hn hcap vs h1 fun j c h2 => ih j c h2 (cleanL_iff.1 (by simpa [E.clean] using hc) j c h2)
  | sm id off n cap z bk hb hn hcap => exact .sm id off n cap z bk (hρ _ _ (by simpa [E.clean] using hc) hb) hn hcap
  | pi cs k bk off vs h1 _ ih => exact .pi cs k bk off vs h1 fun j c h2 => ih j c h2 (cleanL_iff.1 (by simpa [E.clean] using hc) j c h2)
  | pm id off bk hb => exact .pm id off bk (hρ _ _ (by simpa [E.clean] using hc) hb)
  | mp id bk hb => exact .mp id bk (hρ _ _ (by simpa [E.clean] using hc) hb)
  | yl id bk hb => exact .yl id bk (hρ _ _ (by simpa [E.clean] using hc) hb)
  | fn f cs vs hl _ ih => exact .fn f cs vs hl fun j c v h1 h2 => ih j c v h1 h2 (cleanL_iff.1 (by simpa [E.clean] using hc) j c h1)
  | ifc t x v _ ih => exact .ifc t x v (ih (by simpa [E.clean] using hc))
  | val x => exact .val x

/-- What is left of a value, where the objects past the first n are looked at no more but as they stand. -/
def frz0 (n : Nat) (σ : AState) (c : AV) : AV :=
  match c with
  | .sm id off len cap z => if id < n then .sm id off len cap z else match σ[id]? with
    | some (.cells cs) => .sl .no len ((cs.drop off).take (len * z))
    | _ => .u
  | .pm id off => if id < n then .pm id off else match σ[id]? with
    | some (.cells cs) => .pi cs off
    | _ => .u
  | c => c

/-- The rows that do not change any more, with the objects past the first n. -/
def frzS (g : Gh) (w : World) (n : Nat) : Imm := fun bk o => if (g.ρ.drop n).contains bk then w.cell? ⟨bk, o, none⟩ else g.S bk o

section
variable {g g0 : Gh} {w w0 : World} {σ σ0 : AState} {n : Nat}

theorem frzS_in {id bk : Nat} (h : g.ρ[id]? = some bk) (hn : n ≤ id) (o : Nat) : frzS g w n bk o = w.cell? ⟨bk, o, none⟩ := by
  have : (g.ρ.drop n).contains bk = true := by
    rw [List.contains_iff_mem]
    refine List.mem_of_getElem? (i := id - n) ?_
    rw [List.getElem?_drop, show n + (id - n) = id by omega]
    exact h
  unfold frzS
  rw [this]
  rfl

theorem frzS_out {bk : Nat} (h : ∀ id, n ≤ id → g.ρ[id]? ≠ some bk) (o : Nat) : frzS g w n bk o = g.S bk o := by
  have : (g.ρ.drop n).contains bk = false := by
    cases e : (g.ρ.drop n).contains bk with
    | false => rfl
    | true =>
      rw [List.contains_iff_mem] at e
      obtain ⟨i, hi⟩ := List.mem_iff_getElem?.1 e
      rw [List.getElem?_drop] at hi
      exact absurd hi (h (n + i) (by omega))
  unfold frzS
  rw [this]
  rfl

theorem frzS_cases (bk o : Nat) : (∃ id, n ≤ id ∧ g.ρ[id]? = some bk ∧ frzS g w n bk o = w.cell? ⟨bk, o, none⟩) ∨ ((∀ id, n ≤ id → g.ρ[id]? ≠ some bk) ∧ frzS g w n bk o = g.S bk o) := by
  by_cases h : ∃ id, n ≤ id ∧ g.ρ[id]? = some bk
  · obtain ⟨id, h1, h2⟩ := h
    exact .inl ⟨id, h1, h2, frzS_in h2 h1 o⟩
  · have h' : ∀ id, n ≤ id → g.ρ[id]? ≠ some bk := fun id h1 h2 => h ⟨id, h1, h2⟩
    exact .inr ⟨h', frzS_out h' o⟩

theorem Sim.noS (hs : Sim g σ w) {id bk : Nat} (h : g.ρ[id]? = some bk) (o : Nat) : g.S bk o = none := by
  have hlt : id < σ.length := by rw [← hs.len]; exact (List.getElem?_eq_some_iff.1 h).1
  have h1 : σ[id]? = some σ[id] := List.getElem?_eq_getElem hlt
  have h2 := hs.obj id _ h1
  cases e : σ[id] with
  | cells cs =>
    rw [e] at h2
    obtain ⟨b1, vs, E, fr, m2, m3, m4, m5, m6, m7, m8⟩ := h2
    rw [h] at m2
    cases m2
    exact m6 o
  | map es =>
    rw [e] at h2
    obtain ⟨b1, ms, clock, m2, m3, m4, m6, m7, m8⟩ := h2
    rw [h] at m2
    cases m2
    exact m6 o
  | loop r es =>
    rw [e] at h2
    obtain ⟨b1, m2, m3, m4, m6, m7, m8⟩ := h2
    rw [h] at m2
    cases m2
    exact m6 o
  | it itn its es =>
    rw [e] at h2
    obtain ⟨b1, itx, m2, m3, m4, m6, m7, m8⟩ := h2
    rw [h] at m2
    cases m2
    exact m6 o

theorem frzS_mono (hs : Sim g σ w) (bk o : Nat) (v : Value) (h : g.S bk o = some v) : frzS g w n bk o = some v := by
  rcases frzS_cases (g := g) (w := w) (n := n) bk o with ⟨id, h1, h2, h3⟩ | ⟨h1, h2⟩
  · rw [hs.noS h2 o] at h
    cases h
  · rw [h2, h]

/-- The objects that the body made are forgotten: what they hold stays as it is. -/
theorem drop_new (hx : Ext g0 w0 g w) (hs0 : Sim g0 σ0 w0) (hs : Sim g σ w) (ht : σ.take σ0.length = σ0) :
    Ext g0 w0 { S := frzS g w σ0.length, ρ := g0.ρ, ow := g.ow } w ∧ Sim { S := frzS g w σ0.length, ρ := g0.ρ, ow := g.ow } σ0 w := by
  have hlen : g0.ρ.length = σ0.length := hs0.len
  have hρ : ∀ (id bk : Nat), id < σ0.length → g.ρ[id]? = some bk → g0.ρ[id]? = some bk := fun id bk hlt h => by
    have h1 : g0.ρ[id]? = some (g0.ρ[id]'(by omega)) := List.getElem?_eq_getElem (by omega)
    rw [hx.ρ id _ h1] at h
    rw [h1, h]
  have hσ : ∀ (id : Nat) (o : AObj), σ0[id]? = some o → σ[id]? = some o := fun id o h => by
    have hlt : id < σ0.length := (List.getElem?_eq_some_iff.1 h).1
    have h1 : (σ.take σ0.length)[id]? = some o := by rw [ht]; exact h
    rw [List.getElem?_take_of_lt hlt] at h1
    exact h1
  have hnd : ∀ (id bk : Nat), id < σ0.length → g.ρ[id]? = some bk → ∀ o, frzS g w σ0.length bk o = none := fun id bk hlt h o => by
    rw [frzS_out (fun id' h1 h2 => by have := hs.inj id id' bk h h2; omega), hs.noS h o]
  refine ⟨⟨hx.os, hx.tape, hx.output, hx.size, fun bk o v h => frzS_mono hs bk o v (hx.S bk o v h), fun _ _ h => h, fun bk hb h1 h2 => ?_, fun id _ h => .inr ⟨id, h⟩, hx.newow⟩, ⟨fun bk o v h => ?_, hlen, hs0.inj, fun id o ho => ?_, fun bk s h e hh => ?_⟩⟩
  · obtain ⟨k1, k2⟩ := hx.keep bk hb h1 h2
    refine ⟨k1, fun o => ?_⟩
    have : frzS g w σ0.length bk o = g.S bk o := frzS_out (fun id _ h3 => by
      rcases hx.newρ id bk h3 with h4 | ⟨i0, h4⟩
      · omega
      · exact h1 i0 h4) o
    exact this.trans (k2 o)
  · rcases frzS_cases (g := g) (w := w) (n := σ0.length) bk o with ⟨id, h1, h2, h3⟩ | ⟨h1, h2⟩
    · have h : frzS g w σ0.length bk o = some v := h
      rw [← h3]; exact h
    · have h : frzS g w σ0.length bk o = some v := h
      rw [h2] at h
      exact hs.imm bk o v h
  · have hlt : id < σ0.length := (List.getElem?_eq_some_iff.1 ho).1
    have h1 := hs.obj id o (hσ id o ho)
    have h0 := hs0.obj id o ho
    cases o with
    | cells cs =>
      obtain ⟨b1, vs, E, fr, m2, m3, m4, m5, m6, m7, m8⟩ := h1
      obtain ⟨c1, us, E', fr', n2, n3, n4, n5, n6, n7, n8⟩ := h0
      refine ⟨b1, vs, E, fr, hρ id b1 hlt m2, m3, m4, m5, hnd id b1 hlt m2, m7, fun j c v hc hv => ⟨?_, (m8 j c v hc hv).2⟩⟩
      have hltj : j < us.size := by rw [n4]; exact (List.getElem?_eq_some_iff.1 hc).1
      have hcl := (n8 j c us[j] hc (Array.getElem?_eq_getElem hltj)).1.clean
      rw [hlen] at hcl
      exact ((m8 j c v hc hv).1.mono (fun bk o v h => frzS_mono hs bk o v h) (fun _ _ h => h)).take hcl hρ
    | map es =>
      obtain ⟨b1, ms, clock, m2, m3, m4, m6, m7, m8⟩ := h1
      obtain ⟨c1, us, clock', n2, n3, n4, n6, n7, n8⟩ := h0
      refine ⟨b1, ms, clock, hρ id b1 hlt m2, m3, m4, hnd id b1 hlt m2, m7, fun j e m he hm => ?_⟩
      have hltj : j < us.size := by rw [n4.1]; exact (List.getElem?_eq_some_iff.1 he).1
      have hcl := n8 j e us[j] he (Array.getElem?_eq_getElem hltj)
      have hc1 := hcl.1.clean
      have hc2 := hcl.2.clean
      rw [hlen] at hc1 hc2
      exact ⟨((m8 j e m he hm).1.mono (fun bk o v h => frzS_mono hs bk o v h) (fun _ _ h => h)).take hc1 hρ, ((m8 j e m he hm).2.mono (fun bk o v h => frzS_mono hs bk o v h) (fun _ _ h => h)).take hc2 hρ⟩
    | loop r es =>
      obtain ⟨b1, m2, m3, m4, m6, m7, m8⟩ := h1
      obtain ⟨c1, n2, n3, n4, n6, n7, n8⟩ := h0
      refine ⟨b1, hρ id b1 hlt m2, m3, m4, hnd id b1 hlt m2, m7, fun j c v hc hv => ?_⟩
      have hcl := (n8 j c v hc hv).clean
      rw [hlen] at hcl
      exact ((m8 j c v hc hv).mono (fun bk o v h => frzS_mono hs bk o v h) (fun _ _ h => h)).take hcl hρ
    | it itn its es =>
      obtain ⟨b1, itx, m2, m3, m4, m6, m7, m8⟩ := h1
      obtain ⟨c1, ity, n2, n3, n4, n6, n7, n8⟩ := h0
      refine ⟨b1, itx, hρ id b1 hlt m2, m3, m4, hnd id b1 hlt m2, m7, fun j c v hc hv => ?_⟩
      have hltj : j < (#[Value.map ity]).size := by rw [n4]; exact (List.getElem?_eq_some_iff.1 hc).1
      have hcl := (n8 j c _ hc (Array.getElem?_eq_getElem hltj)).clean
      rw [hlen] at hcl
      exact ((m8 j c v hc hv).mono (fun bk o v h => frzS_mono hs bk o v h) (fun _ _ h => h)).take hcl hρ
  · have hh : g.ow bk = some (s, h, e) := hh
    obtain ⟨vs, E, fr, k1, k2, k3, k4⟩ := hs.own bk s h e hh
    refine ⟨vs, E, fr, k1, k2, k3, fun o ho => ?_⟩
    show frzS g w σ0.length bk o = none
    rw [frzS_out (fun id _ h3 => ?_)]
    · exact k4 o ho
    · have hlt : id < σ.length := by rw [← hs.len]; exact (List.getElem?_eq_some_iff.1 h3).1
      have h1 : σ[id]? = some σ[id] := List.getElem?_eq_getElem hlt
      have h2 := hs.obj id _ h1
      cases e2 : σ[id] with
      | cells cs =>
        rw [e2] at h2
        obtain ⟨b1, vs', E', fr', m2, m3, m4, m5, m6, m7, m8⟩ := h2
        rw [h3] at m2
        cases m2
        rw [m7] at hh
        cases hh
      | map es =>
        rw [e2] at h2
        obtain ⟨b1, ms, clock, m2, m3, m4, m6, m7, m8⟩ := h2
        rw [h3] at m2
        cases m2
        rw [m7] at hh
        cases hh
      | loop r es =>
        rw [e2] at h2
        obtain ⟨b1, m2, m3, m4, m6, m7, m8⟩ := h2
        rw [h3] at m2
        cases m2
        rw [m7] at hh
        cases hh
      | it itn its es =>
        rw [e2] at h2
        obtain ⟨b1, itx, m2, m3, m4, m6, m7, m8⟩ := h2
        rw [h3] at m2
        cases m2
        rw [m7] at hh
        cases hh

theorem R.frz0 (hs : Sim g σ w) {c : AV} {v : Value} (h : R g.S g.ρ c v) (n : Nat) : R (frzS g w n) g.ρ (E.frz0 n σ c) v := by
  have hm := h.mono (fun bk o v h => frzS_mono (n := n) hs bk o v h) (fun _ _ h => h)
  cases h with
  | sm id off len cap z bk hb hn hc =>
    unfold E.frz0
    simp only
    split
    · exact hm
    · rename_i hid
      split
      · rename_i cs ho
        obtain ⟨b1, vs, E, fr, m2, m3, m4, m5, m6, m7, m8⟩ := hs.obj id _ ho
        rw [hb] at m2
        cases m2
        have hcell : ∀ (j : Nat) (c : AV), cs[j]? = some c → ∃ hj : j < vs.size, frzS g w n bk j = some vs[j] ∧ R (frzS g w n) g.ρ c vs[j] := fun j c hj => by
          have hlt : j < vs.size := by rw [m4]; exact (List.getElem?_eq_some_iff.1 hj).1
          refine ⟨hlt, ?_, (m8 j c vs[j] hj (Array.getElem?_eq_getElem hlt)).1.mono (fun bk o v h => frzS_mono (n := n) hs bk o v h) (fun _ _ h => h)⟩
          rw [frzS_in hb (by omega), cell_cells m3]
          exact Array.getElem?_eq_getElem hlt
        have hget : ∀ (j : Nat) (c : AV), ((cs.drop off).take (len * z))[j]? = some c → cs[off + j]? = some c := fun j c h => by
          rw [List.getElem?_take] at h
          split at h
          · rw [List.getElem?_drop] at h; exact h
          · cases h
        refine .sl .no (by simp) len _ bk off cap hn hc (fun j => vs.getD (off + j) undef) (fun j c hj => ?_) (fun j c hj => ?_)
        · obtain ⟨h1, h2, h3⟩ := hcell _ c (hget j c hj)
          simp [h2, h1]
        · obtain ⟨h1, h2, h3⟩ := hcell _ c (hget j c hj)
          simpa [h1] using h3
      · exact .u _
  | pm id off bk hb =>
    unfold E.frz0
    simp only
    split
    · exact hm
    · rename_i hid
      split
      · rename_i cs ho
        obtain ⟨b1, vs, E, fr, m2, m3, m4, m5, m6, m7, m8⟩ := hs.obj id _ ho
        rw [hb] at m2
        cases m2
        have hcell : ∀ (j : Nat) (c : AV), cs[j]? = some c → ∃ hj : j < vs.size, frzS g w n bk j = some vs[j] ∧ R (frzS g w n) g.ρ c vs[j] := fun j c hj => by
          have hlt : j < vs.size := by rw [m4]; exact (List.getElem?_eq_some_iff.1 hj).1
          refine ⟨hlt, ?_, (m8 j c vs[j] hj (Array.getElem?_eq_getElem hlt)).1.mono (fun bk o v h => frzS_mono (n := n) hs bk o v h) (fun _ _ h => h)⟩
          rw [frzS_in hb (by omega), cell_cells m3]
          exact Array.getElem?_eq_getElem hlt
        have := R.pi (S := frzS g w n) (ρ := g.ρ) cs off bk 0 (fun j => vs.getD j undef) (fun j c hj => by
          obtain ⟨h1, h2, h3⟩ := hcell j c hj
          simp [h2, h1]) (fun j c hj => by
          obtain ⟨h1, h2, h3⟩ := hcell j c hj
          simpa [h1] using h3)
        simpa using this
      · exact .u _
  | _ => exact hm

/-- The same; what a function value has captured too. -/
def _root_.Go.Proofs.Ytoofpdmdgofdcaa.E.frz (n : Nat) (σ : AState) (c : AV) : AV :=
  match c with
  | .fn f cap => .fn f (cap.map (E.frz0 n σ))
  | c => E.frz0 n σ c

theorem R.frz (hs : Sim g σ w) {c : AV} {v : Value} (h : R g.S g.ρ c v) (n : Nat) : R (frzS g w n) g.ρ (E.frz n σ c) v := by
  cases h with
  | fn f cs vs hl hR =>
    refine .fn f _ vs (by simp [hl]) fun j c v hc hv => ?_
    simp only [List.getElem?_map, Option.map_eq_some_iff] at hc
    obtain ⟨c0, hc0, rfl⟩ := hc
    exact R.frz0 hs (hR j c0 v hc0 hv) n
  | u v => exact R.frz0 hs (.u v) n
  | b x => exact R.frz0 hs (.b x) n
  | i k m h => exact R.frz0 hs (.i k m h) n
  | s l h => exact R.frz0 hs (.s l h) n
  | nilp => exact R.frz0 hs .nilp n
  | nilfn => exact R.frz0 hs .nilfn n
  | nilif => exact R.frz0 hs .nilif n
  | nilmap => exact R.frz0 hs .nilmap n
  | agg cs vs hl h => exact R.frz0 hs (.agg cs vs hl h) n
  | tup cs vs hl h => exact R.frz0 hs (.tup cs vs hl h) n
  | sl0 o => exact R.frz0 hs (.sl0 o) n
  | sl o ho m cs bk off cap hn hc vs h1 h => exact R.frz0 hs (.sl o ho m cs bk off cap hn hc vs h1 h) n
  | sm id off m cap z bk hb hn hc => exact R.frz0 hs (.sm id off m cap z bk hb hn hc) n
  | pi cs k bk off vs h1 h => exact R.frz0 hs (.pi cs k bk off vs h1 h) n
  | pm id off bk hb => exact R.frz0 hs (.pm id off bk hb) n
  | mp id bk hb => exact R.frz0 hs (.mp id bk hb) n
  | yl id bk hb => exact R.frz0 hs (.yl id bk hb) n
  | ifc t x v h => exact R.frz0 hs (.ifc t x v h) n
  | val => exact R.frz0 hs (.val _) n

end
end Go.Proofs.Ytoofpdmdgofdcaa.E

namespace Go.Proofs.Ytoofpdmdgofdcaa.E
open Go Go.RowKit
set_option linter.unusedVariables false
set_option linter.unusedSimpArgs false

variable {P : Program}

/-- What is asked at a body's end, where the objects that it made are the caller's to look at. -/
def bodyQ (P : Program) (fn : Func) (Q : ARes → AState → Prop) : AX → AEnv → AState → Prop
  | .normal, env, σ => aresults P env σ fn.results.toList fun cs => Q (.ret (retV cs)) σ
  | .ret, env, σ => aresults P env σ fn.results.toList fun cs => Q (.ret (retV cs)) σ
  | .panic x, env, σ => Q (.pan x) σ
  | _, _, _ => False

/-- The results as they are left, and what is asked of them. -/
def left0 (n : Nat) (σ σ0 : AState) (Q : ARes → AState → Prop) (cs : List AV) : Prop := clean n (retV (cs.map (frz n σ))) = true ∧ Q (.ret (retV (cs.map (frz n σ)))) σ0

/-- What is asked at a body's end, where the objects that it made are forgotten. -/
def bodyZ (P : Program) (fn : Func) (σ0 : AState) (Q : ARes → AState → Prop) : AX → AEnv → AState → Prop
  | .normal, env, σ => σ.take σ0.length = σ0 ∧ aresults P env σ fn.results.toList (left0 σ0.length σ σ0 Q)
  | .ret, env, σ => σ.take σ0.length = σ0 ∧ aresults P env σ fn.results.toList (left0 σ0.length σ σ0 Q)
  | .panic x, env, σ => σ.take σ0.length = σ0 ∧ clean σ0.length x = true ∧ Q (.pan x) σ0
  | _, _, _ => False

section
variable {G : Nat → AV} {Q : ARes → AState → Prop} {σ : AState}

theorem frz_nt (n : Nat) (σ : AState) (c : AV) : (frz n σ c).nt = frz n σ c.nt := by
  have key : ∀ d : AV, (∀ cs, d ≠ .tup cs) → d.nt = d := fun d h => by
    cases d with
    | tup cs => exact absurd rfl (h cs)
    | _ => rfl
  cases c with
  | tup cs => rfl
  | sm id off len cap z =>
    refine key _ fun cs => ?_
    unfold frz frz0
    simp only
    (repeat' split) <;> simp
  | pm id off =>
    refine key _ fun cs => ?_
    unfold frz frz0
    simp only
    (repeat' split) <;> simp
  | _ => rfl

theorem ownOK_frz {g : Gh} {s : Slot} {c : AV} {v : Value} (h : OwnOK g s c v) (n : Nat) (σ : AState) : OwnOK g s (frz n σ c) v := by
  cases c with
  | sm id off len cap z =>
    unfold frz frz0
    simp only
    split
    · trivial
    · split <;> trivial
  | pm id off =>
    unfold frz frz0
    simp only
    split
    · trivial
    · split <;> trivial
  | fn f cap => trivial
  | _ => exact h

theorem frz_tup {n : Nat} {σ : AState} {c : AV} {cs : List AV} (h : frz n σ c = .tup cs) : c = .tup cs := by
  cases c with
  | sm id off len cap z =>
    unfold frz frz0 at h
    simp only at h
    split at h
    · cases h
    · split at h <;> cases h
  | pm id off =>
    unfold frz frz0 at h
    simp only at h
    split at h
    · cases h
    · split at h <;> cases h
  | fn f cap => cases h
  | _ => exact h

theorem retV_cases (cs : List AV) : (∃ c, cs = [c]) ∨ ∀ f : AV → AV, retV (cs.map f) = .tup (cs.map f) := by
  match cs with
  | [] => exact .inr fun _ => rfl
  | [c] => exact .inl ⟨c, rfl⟩
  | c :: c' :: r => exact .inr fun _ => rfl

theorem R.left {g : Gh} {w : World} {cs : List AV} {v : Value} (hs : Sim g σ w) (h : R g.S g.ρ (retV cs) v) (n : Nat) : R (frzS g w n) g.ρ (retV (cs.map (E.frz n σ))) v := by
  rcases retV_cases cs with ⟨c, rfl⟩ | hc
  · show R _ _ (E.frz n σ c).nt v
    rw [frz_nt]
    exact R.frz hs h n
  · rw [hc]
    have h1 := hc id
    rw [List.map_id] at h1
    rw [h1] at h
    cases h with
    | tup _ vs hl hR =>
      refine .tup _ vs (by simp [hl]) fun j c v hcj hv => ?_
      simp only [List.getElem?_map, Option.map_eq_some_iff] at hcj
      obtain ⟨c0, h2, rfl⟩ := hcj
      exact R.frz hs (hR j c0 v h2 hv) n

theorem TopOwn.left {g : Gh} {i : Nat} {cs : List AV} {v : Value} (h : TopOwn g i (retV cs) v) (n : Nat) (σ : AState) : TopOwn g i (retV (cs.map (frz n σ))) v := by
  rcases retV_cases cs with ⟨c, rfl⟩ | hc
  · show TopOwn g i (frz n σ c).nt v
    rw [frz_nt]
    exact ⟨ownOK_frz h.1 n σ, fun cs' vs e1 e2 k c' v' h1 h2 => h.2 cs' vs (frz_tup e1) e2 k c' v' h1 h2⟩
  · rw [hc]
    have h1 := hc id
    rw [List.map_id] at h1
    rw [h1] at h
    refine ⟨trivial, fun cs' vs e1 e2 k c' v' h2 h3 => ?_⟩
    cases e1
    simp only [List.getElem?_map, Option.map_eq_some_iff] at h2
    obtain ⟨c0, h4, rfl⟩ := h2
    exact ownOK_frz (h.2 cs vs rfl e2 k c0 v' h4 h3) n σ

theorem enter_run {f : FuncId} {fn : Func} {c : Code} {vs : Array Value} {w : World} (hf : P.funcs[f]? = some fn) (hb : fn.body = some c) (hng : (fn.name == "runtime.NumGoroutine") = false) : (callFunc f vs).run P w = .ok (.enter f vs) w := by
  have hng' : ¬ fn.name = "runtime.NumGoroutine" := by simpa using hng
  simp [callFunc, hf, hng', hb]

theorem Sim.putMark {g : Gh} {w : World} {b : Nat} (hs : Sim g σ w) (hb : w.heap[b]? = some (.deferred (some []))) (hρ : ∀ id : Nat, g.ρ[id]? ≠ some b) (ho : g.ow b = none) (o : Obj) : Sim g σ (w.putObj b o) := by
  have hne : ∀ k, k ≠ b → (w.putObj b o).heap[k]? = w.heap[k]? := fun k hk => by
    simp [World.putObj, Array.getElem?_setIfInBounds_ne (Ne.symm hk)]
  refine { imm := fun bk o v h => ?_, len := hs.len, inj := hs.inj, obj := fun id o ho' => ?_, own := fun bk s h e hh => ?_ }
  · have h1 := hs.imm bk o v h
    have hbk : bk ≠ b := fun e => by
      subst e
      simp [World.cell?, hb] at h1
    simp only [World.cell?] at h1 ⊢
    rw [hne bk hbk]
    exact h1
  · have h1 := hs.obj id o ho'
    cases o with
    | cells cs =>
      obtain ⟨b1, vs, E, fr, m2, m3, m4⟩ := h1
      exact ⟨b1, vs, E, fr, m2, (hne b1 (fun e => hρ id (e ▸ m2))).trans m3, m4⟩
    | map es =>
      obtain ⟨b1, ms, clock, m2, m3, m4⟩ := h1
      exact ⟨b1, ms, clock, m2, (hne b1 (fun e => hρ id (e ▸ m2))).trans m3, m4⟩
    | loop r es =>
      obtain ⟨b1, m2, m3, m4⟩ := h1
      exact ⟨b1, m2, (hne b1 (fun e => hρ id (e ▸ m2))).trans m3, m4⟩
    | it itn its es =>
      obtain ⟨b1, itx, m2, m3, m4⟩ := h1
      exact ⟨b1, itx, m2, (hne b1 (fun e => hρ id (e ▸ m2))).trans m3, m4⟩
  · obtain ⟨vs, E, fr, k1, k2⟩ := hs.own bk s h e hh
    exact ⟨vs, E, fr, (hne bk (fun e1 => by rw [e1, ho] at hh; cases hh)).trans k1, k2⟩

theorem Ext.putMark {g0 g : Gh} {w0 w : World} {b : Nat} (hx : Ext g0 w0 g w) (hb : w0.heap.size ≤ b) (o : Obj) : Ext g0 w0 g (w.putObj b o) where
  os := hx.os
  tape := hx.tape
  output := hx.output
  size := by simpa [World.putObj] using hx.size
  S := hx.S
  ρ := hx.ρ
  keep := fun bk h1 h2 h3 => by
    obtain ⟨k1, k2⟩ := hx.keep bk h1 h2 h3
    refine ⟨?_, k2⟩
    rw [← k1]
    simp [World.putObj, Array.getElem?_setIfInBounds_ne (show b ≠ bk by omega)]
  newρ := hx.newρ
  newow := hx.newow

theorem leaves {g0 g : Gh} {w0 : World} {F : Fence} {n : Nat} {fn : Func} {tmps : Array Value} {Rr : Ending → World → Prop} {u : FrameMode} (hu : u ≠ .run)
    (fin : ∀ w', Sim g σ w' → Ext g0 w0 g w' → LeavesIn F n P fn tmps Rr [] u w') : ∀ (ms : List Deferred) (w : World), Marks w0.heap.size g w ms → Sim g σ w → Ext g0 w0 g w → LeavesInM F n P fn tmps Rr ms u w
  | [], w, _, hs, hx => by
    unfold LeavesInM
    exact fin w hs hx
  | m :: ms, w, hm, hs, hx => by
    obtain ⟨b, h1, h2, h3, h4, h5⟩ := hm.1 m (by simp)
    subst h1
    unfold LeavesInM
    refine ⟨hu, .inl ⟨b, _, rfl, run_takeDeferred h3, ?_⟩⟩
    have hp := List.pairwise_cons.1 hm.2
    refine leaves hu fin ms _ ⟨fun m' hm' => ?_, hp.2⟩ (hs.putMark h3 h4 h5 _) (hx.putMark h2 _)
    obtain ⟨b', k1, k2, k3, k4, k5⟩ := hm.1 m' (by simp [hm'])
    have hne : b ≠ b' := fun e => hp.1 m' hm' (by rw [k1, e])
    exact ⟨b', k1, k2, by simpa [World.putObj, Array.getElem?_setIfInBounds_ne hne] using k3, k4, k5⟩

theorem ACalls.start {f : FuncId} {fn : Func} {c : Code} {args : List AV} {rs : Option Nat → Prop} {QX : AX → AEnv → AState → Prop} (hrs : rs none) (hGp : GPl G) (hf : P.funcs[f]? = some fn) (hb : fn.body = some c) (hng : (fn.name == "runtime.NumGoroutine") = false)
    (h : AWp P rs G c QX (args ++ List.replicate (fn.ntmps - args.length) .u) σ)
    (hq : ∀ (g : Gh) (w : World) (e : Exit) (a : Act) (w' : World), Sim g σ w → QInvM g w [] QX e a w' → bodyPostM (FW none) 0 P fn (PostA g w Q) e a w') : ACalls P G f args σ Q := by
  intro g w vs hs ho hG hl hR
  rw [enter_run hf hb hng]
  show Calls P f vs w (PostA g w Q)
  refine (callsIn_wide (n := 0)).1 (callsIn_of_wp_marks hf hb trivial ?_)
  refine wpIn_mono (h g w [] none 0 { tmps := vs ++ Array.replicate (fn.ntmps - vs.size) undef, defers := [] } w hrs hGp hG ⟨rfl, g, Ext.refl g w, hs, ?_⟩) fun e a w' q => hq g w e a w' hs q
  refine ⟨by simp [hl], fun i c v hc hv => ?_⟩
  rcases Nat.lt_or_ge i args.length with hlt | hge
  · rw [List.getElem?_append_left hlt] at hc
    rw [Array.getElem?_append_left (by rw [hl]; exact hlt)] at hv
    exact hR i c v hc hv
  · rw [List.getElem?_append_right hge] at hc
    rw [List.getElem?_replicate] at hc
    split at hc
    · cases hc
      exact ⟨.u v, trivial, fun cs vs e => by cases e⟩
    · cases hc

theorem ret_body {fn : Func} {g : Gh} {w : World} {a : Act} {w' : World} {env : AEnv} {σ' : AState} (hnd : (resT fn.results.toList).Nodup) (h : aresults P env σ' fn.results.toList fun cs => Q (.ret (retV cs)) σ') (hi : Inv2 g w [] env σ' a w') :
    LeavesInM (FW none) 0 P fn a.tmps (PostA g w Q) a.defers .returning w' := by
  obtain ⟨g1, ms, hd, hm, hx, hs, he⟩ := hi
  rw [hd, List.append_nil]
  refine leaves (by simp) (fun w2 hs2 hx2 => ?_) ms w' hm hs hx
  obtain ⟨cs, v, g', k1, k2, k3, k4, k5, k6, k7, _, _⟩ := ret_post hs2 he hnd h
  exact ⟨v, k1, retV cs, σ', g', k2, hx2.trans k3, k4, k5, k6, k7⟩

theorem ret_bodyZ {fn : Func} {g : Gh} {w : World} {a : Act} {w' : World} {env : AEnv} {σ' : AState} (hs0 : Sim g σ w) (hnd : (resT fn.results.toList).Nodup) (ht : σ'.take σ.length = σ) (h : aresults P env σ' fn.results.toList (left0 σ.length σ' σ Q)) (hi : Inv2 g w [] env σ' a w') :
    LeavesInM (FW none) 0 P fn a.tmps (PostA g w Q) a.defers .returning w' := by
  obtain ⟨g1, ms, hd, hm, hx, hs, he⟩ := hi
  rw [hd, List.append_nil]
  refine leaves (by simp) (fun w2 hs2 hx2 => ?_) ms w' hm hs hx
  obtain ⟨cs, v, g', k1, ⟨k2, k2'⟩, k3, k4, k5, k6, k7, _, _⟩ := ret_post hs2 he hnd h
  have hx' := hx2.trans k3
  obtain ⟨q1, q2⟩ := drop_new hx' hs0 k4 ht
  refine ⟨v, k1, _, σ, _, k2', q1, q2, ?_, TopOwn.left k6 σ.length σ', k7⟩
  refine (R.left k4 k5 σ.length).take k2 fun id bk hlt h => ?_
  have h1 : g.ρ[id]? = some (g.ρ[id]'(by rw [hs0.len]; exact hlt)) := List.getElem?_eq_getElem (by rw [hs0.len]; exact hlt)
  rw [hx'.ρ id _ h1] at h
  rw [h1, h]

theorem OnlyO.of (g : Gh) : OnlyO { g with ow := onlyO g.ow } := fun bk s hh e => by
  obtain ⟨id, j, e2⟩ := (onlyO_some e).2
  exact ⟨id, j, e2⟩

/-- In a plain frame. -/
def plainR (r : Option Nat) : Prop := r = none

/-- A contract from the body: the objects that it makes are the caller's to look at. -/
theorem ACalls.body {f : FuncId} {fn : Func} {c : Code} {args : List AV} (hGp : GPl G) (hf : P.funcs[f]? = some fn) (hb : fn.body = some c) (hng : (fn.name == "runtime.NumGoroutine") = false) (hnd : (resT fn.results.toList).Nodup)
    (h : AWp P plainR G c (bodyQ P fn Q) (args ++ List.replicate (fn.ntmps - args.length) .u) σ) : ACalls P G f args σ Q :=
  ACalls.start (rs := plainR) rfl hGp hf hb hng h fun g w e a w' hs0 q => by
    cases e with
    | normal => obtain ⟨env, σ', k1, k2⟩ := q; exact ret_body hnd k1 k2
    | ret => obtain ⟨env, σ', k1, k2⟩ := q; exact ret_body hnd k1 k2
    | panic ch =>
      obtain ⟨x, v, env, σ', g1, ms, rfl, k1, k2, km, k3, k4, k5⟩ := q
      show LeavesInM _ _ _ _ _ _ _ _ _
      rw [k2, List.append_nil]
      exact leaves (by simp) (fun w2 hs2 hx2 => by unfold LeavesIn; exact ⟨x, v, σ', _, rfl, k1, hx2.trans Ext.onlyO, hs2.onlyO, k5, OnlyO.of g1⟩) ms w' km k4 k3
    | exit id => obtain ⟨env, σ', k1, k2⟩ := q; exact k1.elim
    | goto l => obtain ⟨env, σ', k1, k2⟩ := q; exact k1.elim
    | outgrown => exact q.elim

/-- A contract from the body: the objects that it makes are forgotten. -/
theorem ACalls.bodyZ {f : FuncId} {fn : Func} {c : Code} {args : List AV} (hGp : GPl G) (hf : P.funcs[f]? = some fn) (hb : fn.body = some c) (hng : (fn.name == "runtime.NumGoroutine") = false) (hnd : (resT fn.results.toList).Nodup)
    (h : AWp P plainR G c (E.bodyZ P fn σ Q) (args ++ List.replicate (fn.ntmps - args.length) .u) σ) : ACalls P G f args σ Q :=
  ACalls.start (rs := plainR) rfl hGp hf hb hng h fun g w e a w' hs0 q => by
    cases e with
    | normal => obtain ⟨env, σ', ⟨k0, k1⟩, k2⟩ := q; exact ret_bodyZ hs0 hnd k0 k1 k2
    | ret => obtain ⟨env, σ', ⟨k0, k1⟩, k2⟩ := q; exact ret_bodyZ hs0 hnd k0 k1 k2
    | panic ch =>
      obtain ⟨x, v, env, σ', g1, ms, rfl, ⟨k0, k1, k1'⟩, k2, km, k3, k4, k5⟩ := q
      show LeavesInM _ _ _ _ _ _ _ _ _
      rw [k2, List.append_nil]
      refine leaves (by simp) (fun w2 hs2 hx2 => ?_) ms w' km k4 k3
      have hx := hx2.trans (Ext.onlyO (g := g1) (w := w2))
      obtain ⟨q1, q2⟩ := drop_new hx hs0 hs2.onlyO k0
      unfold LeavesIn
      refine ⟨x, v, σ, _, rfl, k1', q1, q2, ?_, OnlyO.of g1⟩
      have h6 := k5.mono (S' := frzS { g1 with ow := onlyO g1.ow } w2 σ.length) (fun bk o v h => frzS_mono (g := { g1 with ow := onlyO g1.ow }) (n := σ.length) hs2.onlyO bk o v h) (fun _ _ h => h)
      refine h6.take k1 fun id bk hlt h => ?_
      have h1 : g.ρ[id]? = some (g.ρ[id]'(by rw [hs0.len]; exact hlt)) := List.getElem?_eq_getElem (by rw [hs0.len]; exact hlt)
      rw [k3.ρ id _ h1] at h
      rw [h1, h]
    | exit id => obtain ⟨env, σ', k1, k2⟩ := q; exact k1.elim
    | goto l => obtain ⟨env, σ', k1, k2⟩ := q; exact k1.elim
    | outgrown => exact q.elim

theorem ACalls.mono {f : FuncId} {args : List AV} {Q' : ARes → AState → Prop} (h : ACalls P G f args σ Q) (hq : ∀ r s, Q r s → Q' r s) : ACalls P G f args σ Q' := by
  intro g w vs h1 h2 h3 h4 h5
  have h6 := h g w vs h1 h2 h3 h4 h5
  have key : ∀ e w', PostA g w Q e w' → PostA g w Q' e w' := fun e w' hp => by
    cases e with
    | returned v =>
      obtain ⟨r, σ', g', k1, k2⟩ := hp
      exact ⟨r, σ', g', hq _ _ k1, k2⟩
    | panicked ch =>
      obtain ⟨x, v, σ', g', k0, k1, k2⟩ := hp
      exact ⟨x, v, σ', g', k0, hq _ _ k1, k2⟩
    | outgrown => exact hp
  exact next1_mono key h6

end
end Go.Proofs.Ytoofpdmdgofdcaa.E

namespace Go.Proofs.Ytoofpdmdgofdcaa.E
open Go Go.RowKit
set_option linter.unusedVariables false
set_option linter.unusedSimpArgs false
variable {α : Type}

theorem st_get (σ l : List α) (k : Nat) : (σ ++ l)[σ.length + k]? = l[k]? := by rw [List.getElem?_append_right (by omega)]; congr 1; omega
theorem st_get0 (σ l : List α) : (σ ++ l)[σ.length]? = l[0]? := by rw [List.getElem?_append_right (by omega)]; congr 1; omega
theorem st_set (σ l : List α) (k : Nat) (a : α) : (σ ++ l).set (σ.length + k) a = σ ++ l.set k a := by rw [List.set_append_right _ _ (by omega)]; congr 2; omega
theorem st_set0 (σ l : List α) (a : α) : (σ ++ l).set σ.length a = σ ++ l.set 0 a := by rw [List.set_append_right _ _ (by omega)]; congr 2; omega

def getE (env : AEnv) (t : Nat) : AV := env.getD t .u
theorem getD_zero (c : AV) (r : AEnv) : (c :: r).getD 0 .u = c := rfl
theorem getD_succ (c : AV) (r : AEnv) (n : Nat) : (c :: r).getD (n + 1) .u = r.getD n .u := rfl

theorem aput_none (env : AEnv) (c : AV) : aput env none c = env := rfl
theorem aput_some (env : AEnv) (d : Nat) (c : AV) : aput env (some d) c = env.set d c := rfl
theorem ev_tmp (G : Nat → AV) (env : AEnv) (t : Nat) : ev G env (.tmp t) = env.getD t .u := rfl
theorem ev_const (G : Nat → AV) (env : AEnv) (v : Value) : ev G env (.const v) = cst v := rfl
theorem cst_int (k : IntKind) (n : Int) (h : inRb k n = true) : cst (.int k n) = .i k n := by simp [cst, cst0, h]
theorem cst_bool (b : Bool) : cst (.bool b) = .b b := by simp [cst, cst0]

@[congr] theorem AWp_congr {P : Program} {rs : Option Nat → Prop} {G : Nat → AV} {c : Code} {Q : AX → AEnv → AState → Prop} {env env' : AEnv} {σ σ' : AState} (h : env = env') (h' : σ = σ') : AWp P rs G c Q env σ = AWp P rs G c Q env' σ' := by rw [h, h']
@[congr] theorem brK_congr {b b' : Bool} {A B : Prop} (h : b = b') : brK b A B = brK b' A B := by rw [h]

@[congr] theorem awOps_congr {P : Program} {G : Nat → AV} {ops l : List Oper} {Q : AX → AEnv → AState → Prop} {env env' : AEnv} {σ σ' : AState} (h : env = env') (h' : σ = σ') : awOps P G ops Q l env σ = awOps P G ops Q l env' σ' := by rw [h, h']
theorem awOps_nil {P : Program} {G : Nat → AV} {ops : List Oper} {Q : AX → AEnv → AState → Prop} {env : AEnv} {σ : AState} : awOps P G ops Q [] env σ = Q .normal env σ := rfl
theorem awOps_cons {P : Program} {G : Nat → AV} {ops : List Oper} {Q : AX → AEnv → AState → Prop} {o : Oper} {rest : List Oper} {env : AEnv} {σ : AState} : awOps P G ops Q (o :: rest) env σ = match gval ops env o with
    | some b => brK b (aop P G rest o env σ (awOps P G ops Q rest) Q) (awOps P G ops Q rest (aput env o.dst (.tup [])) σ)
    | none => False := rfl

theorem awOps_step {P : Program} {G : Nat → AV} {ops : List Oper} {Q : AX → AEnv → AState → Prop} {o : Oper} {rest : List Oper} {env : AEnv} {σ : AState} (h : match gval ops env o with
    | some b => brK b (aop P G rest o env σ (awOps P G ops Q rest) Q) (awOps P G ops Q rest (aput env o.dst (.tup [])) σ)
    | none => False) : awOps P G ops Q (o :: rest) env σ := h

theorem brK_eqF {x : Bool} {A B : Prop} : brK (x == false) A B = brK x B A := by cases x <;> simp [brK]
theorem brK_eqT {x : Bool} {A B : Prop} : brK (x == true) A B = brK x A B := by cases x <;> simp [brK]

def condQ (c : AV) (A B : Prop) : Prop :=
  match c with
  | .b b => brK b A B
  | _ => False
theorem condQ_b {b : Bool} {A B : Prop} : condQ (.b b) A B = brK b A B := rfl
@[congr] theorem condQ_congr {c c' : AV} {A B : Prop} (h : c = c') : condQ c A B = condQ c' A B := by rw [h]

theorem AWp.condK {P : Program} {rs : Option Nat → Prop} {G : Nat → AV} {Q : AX → AEnv → AState → Prop} {env : AEnv} {σ : AState} {x : Operand} {p q : Code} (h : condQ (ev G env x) (AWp P rs G p Q env σ) (AWp P rs G q Q env σ)) : AWp P rs G (.cond x p q) Q env σ := by
  generalize hc : ev G env x = c at h
  cases c with
  | b b =>
    have h : brK b (AWp P rs G p Q env σ) (AWp P rs G q Q env σ) := h
    exact AWp.cond hc h.1 h.2
  | _ => exact h.elim

theorem wrap_id {k : IntKind} {n : Int} (h : inRb k n = true) : k.wrap n = n := by
  have h := inR_holds h
  unfold inR at h
  cases k <;> simp [IntKind.wrap, IntKind.min, IntKind.max, IntKind.signed, IntKind.bits] at * <;> (try split) <;> omega

theorem wrap_i64 {n : Int} (h : -9223372036854775808 ≤ n) (h' : n ≤ 9223372036854775807) : IntKind.i64.wrap n = n := wrap_id (by simp [inRb, h, h'])

theorem brK_mk {b : Bool} {A B : Prop} (h : b = true → A) (h' : b = false → B) : brK b A B := ⟨h, h'⟩

def mkE (n : Nat) (l : List (Nat × AV)) : AEnv := l.foldl (fun e p => e.set p.1 p.2) (List.replicate n .u)
theorem mkE_def (n : Nat) (l : List (Nat × AV)) : mkE n l = l.foldl (fun e p => e.set p.1 p.2) (List.replicate n .u) := rfl

end Go.Proofs.Ytoofpdmdgofdcaa.E

namespace Go.Proofs.Ytoofpdmdgofdcaa.E
open Go Go.RowKit
set_option linter.unusedVariables false
set_option linter.unusedSimpArgs false

variable {P : Program}

def cleanO (n : Nat) : AObj → Bool
  | .cells cs => cleanL n cs
  | .map es => es.all fun e => clean n e.1 && clean n e.2
  | .loop _ le => cleanL n le
  | .it _ _ le => cleanL n le

section
variable {G : Nat → AV} {g g0 g1 : Gh} {w w0 w1 : World} {σ s p ls : AState}

theorem Sim.setLoop {id bk : Nat} {r r' : Loop} {le : List AV} (hs : Sim g σ w) (ho : σ[id]? = some (.loop r le)) (hb : g.ρ[id]? = some bk) (ht : r'.tmps = r.tmps) : w.heap[bk]? = some (.loop r) ∧ Sim g (σ.set id (.loop r' le)) (w.putObj bk (.loop r')) := by
  obtain ⟨b1, m2, m3, m4, m6, m7, m8⟩ := hs.obj id _ ho
  rw [hb] at m2
  cases m2
  refine ⟨m3, ?_⟩
  have hlt := heap_lt m3
  have hid : id < σ.length := (List.getElem?_eq_some_iff.1 ho).1
  have hne : ∀ k, k ≠ bk → (w.putObj bk (.loop r')).heap[k]? = w.heap[k]? := fun k hk => World.putObj_heap_other hk
  refine { imm := fun b o v h => ?_, len := by rw [List.length_set]; exact hs.len, inj := hs.inj, obj := fun j o ho' => ?_, own := fun b sl h e hh => ?_ }
  · have h1 := hs.imm b o v h
    have hbk : b ≠ bk := fun e => by
      subst e
      rw [m6] at h
      cases h
    simp only [World.cell?] at h1 ⊢
    rw [hne b hbk]
    exact h1
  · rw [List.getElem?_set] at ho'
    by_cases e : id = j
    · subst e
      simp only [if_true, hid] at ho'
      cases ho'
      exact ⟨bk, hb, World.putObj_heap_same hlt, by rw [ht]; exact m4, m6, m7, by rw [ht]; exact m8⟩
    · simp only [e, if_false] at ho'
      have h1 := hs.obj j o ho'
      cases o with
      | cells cs =>
        obtain ⟨b1, vs, E, fr, m2, m3, m4⟩ := h1
        exact ⟨b1, vs, E, fr, m2, (hne b1 (fun eb => e (hs.inj id j bk hb (eb ▸ m2)))).trans m3, m4⟩
      | map es =>
        obtain ⟨b1, ms, clock, m2, m3, m4⟩ := h1
        exact ⟨b1, ms, clock, m2, (hne b1 (fun eb => e (hs.inj id j bk hb (eb ▸ m2)))).trans m3, m4⟩
      | loop r es =>
        obtain ⟨b1, m2, m3, m4⟩ := h1
        exact ⟨b1, m2, (hne b1 (fun eb => e (hs.inj id j bk hb (eb ▸ m2)))).trans m3, m4⟩
      | it itn its es =>
        obtain ⟨b1, itx, m2, m3, m4⟩ := h1
        exact ⟨b1, itx, m2, (hne b1 (fun eb => e (hs.inj id j bk hb (eb ▸ m2)))).trans m3, m4⟩
  · obtain ⟨vs, E, fr, k1, k2⟩ := hs.own b sl h e hh
    exact ⟨vs, E, fr, (hne b (fun e1 => by rw [e1, m7] at hh; cases hh)).trans k1, k2⟩

theorem Ext.setLoop {id bk : Nat} (hb : g.ρ[id]? = some bk) (o : Obj) : Ext g w g (w.putObj bk o) where
  os := rfl
  tape := rfl
  output := rfl
  size := by simp
  S := fun _ _ _ h => h
  ρ := fun _ _ h => h
  keep := fun b h1 h2 h3 => ⟨World.putObj_heap_other (fun e => h2 id (e ▸ hb)), fun _ => rfl⟩
  newρ := fun id _ h => .inr ⟨id, h⟩
  newow := fun _ _ h => .inr (by rw [h]; simp)

/-- The objects that were made are forgotten; those that were there may have changed, if they name no other ones. -/
theorem drop_newP (hx : Ext g0 w0 g w) (hs0 : Sim g0 σ w0) (hs : Sim g s w) (ht : s.take σ.length = p) (hp : p.length = σ.length) (hk : ∀ (i : Nat) o, p[i]? = some o → σ[i]? = some o ∨ cleanO σ.length o = true) :
    Ext g0 w0 { S := frzS g w σ.length, ρ := g0.ρ, ow := g.ow } w ∧ Sim { S := frzS g w σ.length, ρ := g0.ρ, ow := g.ow } p w := by
  have hlen : g0.ρ.length = σ.length := hs0.len
  have hρ : ∀ (id bk : Nat), id < σ.length → g.ρ[id]? = some bk → g0.ρ[id]? = some bk := fun id bk hlt h => by
    have h1 : g0.ρ[id]? = some (g0.ρ[id]'(by omega)) := List.getElem?_eq_getElem (by omega)
    rw [hx.ρ id _ h1] at h
    rw [h1, h]
  have hσ : ∀ (id : Nat) (o : AObj), p[id]? = some o → s[id]? = some o := fun id o h => by
    have hlt : id < σ.length := by rw [← hp]; exact (List.getElem?_eq_some_iff.1 h).1
    rw [← ht, List.getElem?_take_of_lt hlt] at h
    exact h
  have hnd : ∀ (id bk : Nat), id < σ.length → g.ρ[id]? = some bk → ∀ o, frzS g w σ.length bk o = none := fun id bk hlt h o => by
    rw [frzS_out (fun id' h1 h2 => by have := hs.inj id id' bk h h2; omega), hs.noS h o]
  have hcl : ∀ (id : Nat) (o : AObj), p[id]? = some o → cleanO σ.length o = true := fun id o h => by
    rcases hk id o h with h1 | h1
    · have h0 := hs0.obj id o h1
      cases o with
      | cells cs =>
        obtain ⟨c1, us, E', fr', n2, n3, n4, n5, n6, n7, n8⟩ := h0
        refine cleanL_iff.2 fun j c hc => ?_
        have hltj : j < us.size := by rw [n4]; exact (List.getElem?_eq_some_iff.1 hc).1
        have := (n8 j c us[j] hc (Array.getElem?_eq_getElem hltj)).1.clean
        rwa [hlen] at this
      | map es =>
        obtain ⟨c1, us, clock', n2, n3, n4, n6, n7, n8⟩ := h0
        show es.all _ = true
        rw [List.all_eq_true]
        intro e he
        obtain ⟨j, hj⟩ := List.mem_iff_getElem?.1 he
        have hltj : j < us.size := by rw [n4.1]; exact (List.getElem?_eq_some_iff.1 hj).1
        have h2 := n8 j e us[j] hj (Array.getElem?_eq_getElem hltj)
        have k1 := h2.1.clean
        have k2 := h2.2.clean
        rw [hlen] at k1 k2
        simp [k1, k2]
      | loop r es =>
        obtain ⟨c1, n2, n3, n4, n6, n7, n8⟩ := h0
        refine cleanL_iff.2 fun j c hc => ?_
        have hltj : j < r.tmps.size := by rw [n4]; exact (List.getElem?_eq_some_iff.1 hc).1
        have := (n8 j c r.tmps[j] hc (Array.getElem?_eq_getElem hltj)).clean
        rwa [hlen] at this
      | it itn its es =>
        obtain ⟨c1, itx, n2, n3, n4, n6, n7, n8⟩ := h0
        refine cleanL_iff.2 fun j c hc => ?_
        have hltj : j < (#[Value.map itx]).size := by rw [n4]; exact (List.getElem?_eq_some_iff.1 hc).1
        have := (n8 j c (#[Value.map itx])[j] hc (Array.getElem?_eq_getElem hltj)).clean
        rwa [hlen] at this
    · exact h1
  refine ⟨⟨hx.os, hx.tape, hx.output, hx.size, fun bk o v h => frzS_mono hs bk o v (hx.S bk o v h), fun _ _ h => h, fun bk hb h1 h2 => ?_, fun id _ h => .inr ⟨id, h⟩, hx.newow⟩, ⟨fun bk o v h => ?_, by rw [hp]; exact hlen, hs0.inj, fun id o ho => ?_, fun bk sl h e hh => ?_⟩⟩
  · obtain ⟨k1, k2⟩ := hx.keep bk hb h1 h2
    refine ⟨k1, fun o => ?_⟩
    have : frzS g w σ.length bk o = g.S bk o := frzS_out (fun id _ h3 => by
      rcases hx.newρ id bk h3 with h4 | ⟨i0, h4⟩
      · omega
      · exact h1 i0 h4) o
    exact this.trans (k2 o)
  · rcases frzS_cases (g := g) (w := w) (n := σ.length) bk o with ⟨id, h1, h2, h3⟩ | ⟨h1, h2⟩
    · have h : frzS g w σ.length bk o = some v := h
      rw [← h3]; exact h
    · have h : frzS g w σ.length bk o = some v := h
      rw [h2] at h
      exact hs.imm bk o v h
  · have hlt : id < σ.length := by rw [← hp]; exact (List.getElem?_eq_some_iff.1 ho).1
    have h1 := hs.obj id o (hσ id o ho)
    have hc := hcl id o ho
    cases o with
    | cells cs =>
      obtain ⟨b1, vs, E, fr, m2, m3, m4, m5, m6, m7, m8⟩ := h1
      exact ⟨b1, vs, E, fr, hρ id b1 hlt m2, m3, m4, m5, hnd id b1 hlt m2, m7, fun j c v hcj hv => ⟨((m8 j c v hcj hv).1.mono (fun bk o v h => frzS_mono hs bk o v h) (fun _ _ h => h)).take (cleanL_iff.1 hc j c hcj) hρ, (m8 j c v hcj hv).2⟩⟩
    | map es =>
      obtain ⟨b1, ms, clock, m2, m3, m4, m6, m7, m8⟩ := h1
      refine ⟨b1, ms, clock, hρ id b1 hlt m2, m3, m4, hnd id b1 hlt m2, m7, fun j e m he hm => ?_⟩
      have hce := List.all_eq_true.1 (show es.all _ = true from hc) e (List.mem_of_getElem? he)
      simp only [Bool.and_eq_true] at hce
      exact ⟨((m8 j e m he hm).1.mono (fun bk o v h => frzS_mono hs bk o v h) (fun _ _ h => h)).take hce.1 hρ, ((m8 j e m he hm).2.mono (fun bk o v h => frzS_mono hs bk o v h) (fun _ _ h => h)).take hce.2 hρ⟩
    | loop r es =>
      obtain ⟨b1, m2, m3, m4, m6, m7, m8⟩ := h1
      exact ⟨b1, hρ id b1 hlt m2, m3, m4, hnd id b1 hlt m2, m7, fun j c v hcj hv => ((m8 j c v hcj hv).mono (fun bk o v h => frzS_mono hs bk o v h) (fun _ _ h => h)).take (cleanL_iff.1 hc j c hcj) hρ⟩
    | it itn its es =>
      obtain ⟨b1, itx, m2, m3, m4, m6, m7, m8⟩ := h1
      exact ⟨b1, itx, hρ id b1 hlt m2, m3, m4, hnd id b1 hlt m2, m7, fun j c v hcj hv => ((m8 j c v hcj hv).mono (fun bk o v h => frzS_mono hs bk o v h) (fun _ _ h => h)).take (cleanL_iff.1 hc j c hcj) hρ⟩
  · have hh : g.ow bk = some (sl, h, e) := hh
    obtain ⟨vs, E, fr, k1, k2, k3, k4⟩ := hs.own bk sl h e hh
    refine ⟨vs, E, fr, k1, k2, k3, fun o ho => ?_⟩
    show frzS g w σ.length bk o = none
    rw [frzS_out (fun id _ h3 => ?_)]
    · exact k4 o ho
    · have hlt : id < s.length := by rw [← hs.len]; exact (List.getElem?_eq_some_iff.1 h3).1
      have h1 : s[id]? = some s[id] := List.getElem?_eq_getElem hlt
      have h2 := hs.obj id _ h1
      cases e2 : s[id] with
      | cells cs =>
        rw [e2] at h2
        obtain ⟨b1, vs', E', fr', m2, m3, m4, m5, m6, m7, m8⟩ := h2
        rw [h3] at m2
        cases m2
        rw [m7] at hh
        cases hh
      | map es =>
        rw [e2] at h2
        obtain ⟨b1, ms, clock, m2, m3, m4, m6, m7, m8⟩ := h2
        rw [h3] at m2
        cases m2
        rw [m7] at hh
        cases hh
      | loop r es =>
        rw [e2] at h2
        obtain ⟨b1, m2, m3, m4, m6, m7, m8⟩ := h2
        rw [h3] at m2
        cases m2
        rw [m7] at hh
        cases hh
      | it itn its es =>
        rw [e2] at h2
        obtain ⟨b1, itx, m2, m3, m4, m6, m7, m8⟩ := h2
        rw [h3] at m2
        cases m2
        rw [m7] at hh
        cases hh

end
end Go.Proofs.Ytoofpdmdgofdcaa.E

namespace Go.Proofs.Ytoofpdmdgofdcaa.E
open Go Go.RowKit
set_option linter.unusedVariables false
set_option linter.unusedSimpArgs false

variable {P : Program}

def aputs (le : AEnv) (ps : List (Nat × AV)) : AEnv := ps.foldl (fun e p => e.set p.1 p.2) le

def anyR (r : Option Nat) : Prop := True

theorem clean_mono {n m : Nat} (h : n ≤ m) : ∀ c : AV, clean n c = true → clean m c = true
  | .agg cs, hc => by simp only [clean] at *; exact cleanL_mono' h cs hc
  | .tup cs, hc => by simp only [clean] at *; exact cleanL_mono' h cs hc
  | .sl _ _ cs, hc => by simp only [clean] at *; exact cleanL_mono' h cs hc
  | .sm id _ _ _ _, hc => by simp only [clean, decide_eq_true_eq] at *; omega
  | .pi cs _, hc => by simp only [clean] at *; exact cleanL_mono' h cs hc
  | .pm id _, hc => by simp only [clean, decide_eq_true_eq] at *; omega
  | .mp id, hc => by simp only [clean, decide_eq_true_eq] at *; omega
  | .yl id, hc => by simp only [clean, decide_eq_true_eq] at *; omega
  | .fn _ cs, hc => by simp only [clean] at *; exact cleanL_mono' h cs hc
  | .ifc _ x, hc => by simp only [clean] at *; exact clean_mono h x hc
  | .u, _ => rfl
  | .b _, _ => rfl
  | .i _ _, _ => rfl
  | .s _, _ => rfl
  | .nilp, _ => rfl
  | .nilfn, _ => rfl
  | .nilif, _ => rfl
  | .nilmap, _ => rfl
  | .val _, _ => rfl
where
  cleanL_mono' {n m : Nat} (h : n ≤ m) : ∀ cs : List AV, cleanL n cs = true → cleanL m cs = true
  | [], _ => rfl
  | c :: cs, hc => by
    simp only [cleanL, Bool.and_eq_true] at *
    exact ⟨clean_mono h c hc.1, cleanL_mono' h cs hc.2⟩

theorem cleanO_mono {n m : Nat} (h : n ≤ m) (o : AObj) (hc : cleanO n o = true) : cleanO m o = true := by
  cases o with
  | cells cs => exact clean_mono.cleanL_mono' h cs hc
  | map es =>
    have hc : es.all (fun e => clean n e.1 && clean n e.2) = true := hc
    show es.all (fun e => clean m e.1 && clean m e.2) = true
    rw [List.all_eq_true] at *
    intro e he
    have := hc e he
    simp only [Bool.and_eq_true] at *
    exact ⟨clean_mono h _ this.1, clean_mono h _ this.2⟩
  | loop r es => exact clean_mono.cleanL_mono' h es hc
  | it itn its es => exact clean_mono.cleanL_mono' h es hc

/-- The objects that were there: as they were, or changed so that they name no other ones. -/
def KC (p p' : AState) : Prop := ∀ (i : Nat) o, p'[i]? = some o → p[i]? = some o ∨ cleanO p.length o = true

theorem KC.refl (p : AState) : KC p p := fun i o h => .inl h
theorem KC.trans {p p' p'' : AState} (h : KC p p') (hl : p'.length = p.length) (h' : KC p' p'') : KC p p'' := fun i o ho => by
  rcases h' i o ho with h1 | h1
  · exact h i o h1
  · rw [hl] at h1; exact .inr h1
theorem KC.app {p : AState} {l l' : AState} (h : ∀ o ∈ l', cleanO (p.length + l.length) o = true) : KC (p ++ l) (p ++ l') := fun i o ho => by
  rcases Nat.lt_or_ge i p.length with hlt | hge
  · rw [List.getElem?_append_left hlt] at ho ⊢
    exact .inl ho
  · rw [List.getElem?_append_right hge] at ho
    exact .inr (by rw [List.length_append]; exact h o (List.mem_of_getElem? ho))

/-- At a round's end: the objects that were there ahead of the loop; the record; the iterator's own; what the round made. -/
def RoundEnd (p : AState) (r : Loop) (le : List AV) (ls : AState) (s : AState) (Y : AState → Prop) : Prop :=
  ∃ p' junk, s = p' ++ (.loop { r with state := .busy } le :: (ls ++ junk)) ∧ p'.length = p.length ∧ KC p p' ∧ Y p'

def roundQ (p : AState) (r : Loop) (le : List AV) (ls : AState) (Y : AState → Prop) (Z : Code → AState → Prop) : AX → AEnv → AState → Prop
  | .normal, _, s => RoundEnd p r le ls s Y
  | .ret, _, s => RoundEnd p r le ls s (Z .ret)
  | .exit id, _, s => RoundEnd p r le ls s (Z (.exit id))
  | .goto l, _, s => RoundEnd p r le ls s (Z (.goto l))
  | .panic _, _, _ => False

def roundR (p : AState) (r : Loop) (le : List AV) (ls : AState) (Y : AState → Prop) (Z : Code → AState → Prop) : ARes → AState → Prop := fun x s =>
  (∃ p', x = .ret (.b true) ∧ s = p' ++ (.loop r le :: ls) ∧ p'.length = p.length ∧ KC p p' ∧ Y p') ∨
  (∃ p' c, x = .ret (.b false) ∧ s = p' ++ (.loop { r with state := .done, pending := some c } le :: ls) ∧ p'.length = p.length ∧ KC p p' ∧ Z c p')

section
variable {G : Nat → AV} {g g0 g1 : Gh} {w w0 w1 : World} {σ s p ls : AState} {r : Loop} {le : List AV}

theorem round_end {a : Act} {env : AEnv} {bk : Nat} {r' : Loop} {Y : AState → Prop} {x : Bool} {Qr : ARes → AState → Prop} (hs : Sim g (p ++ (.loop r le :: ls)) w) (hb : g.ρ[p.length]? = some bk) (ht : r'.tmps = r.tmps) (he : RoundEnd p r le ls s Y) (hi : Inv2 g w [] env s a w1)
    (hq : ∀ p', p'.length = p.length → KC p p' → Y p' → Qr (.ret (.b x)) (p' ++ (.loop r' le :: ls))) :
    w1.heap[bk]? = some (.loop { r with state := .busy }) ∧ PostA g w Qr (.returned (.bool x)) (w1.putObj bk (.loop r')) := by
  obtain ⟨p', junk, rfl, hl, hk, hy⟩ := he
  obtain ⟨g1, ms, hd, hm, hx1, hs1, he1⟩ := hi
  have hb1 := hx1.ρ _ _ hb
  have hget : (p' ++ (AObj.loop { r with state := .busy } le :: (ls ++ junk)))[p.length]? = some (.loop { r with state := .busy } le) := by
    rw [← hl, st_get0]
    rfl
  obtain ⟨k1, k2⟩ := hs1.setLoop (r' := r') hget hb1 ht
  have hset : (p' ++ (AObj.loop { r with state := .busy } le :: (ls ++ junk))).set p.length (.loop r' le) = p' ++ (.loop r' le :: (ls ++ junk)) := by
    rw [← hl, st_set0]
    rfl
  rw [hset] at k2
  refine ⟨k1, ?_⟩
  have hx2 : Ext g w { g1 with ow := onlyO g1.ow } (w1.putObj bk (.loop r')) := (hx1.trans (Ext.setLoop hb1 _)).trans Ext.onlyO
  have hN : (p ++ (AObj.loop r le :: ls)).length = p.length + (ls.length + 1) := by simp
  obtain ⟨b0, m2, m3, m4, m6, m7, m8⟩ := hs.obj p.length (.loop r le) (by rw [st_get0]; rfl)
  obtain ⟨q1, q2⟩ := drop_newP (p := p' ++ (.loop r' le :: ls)) hx2 hs k2.onlyO (by
      rw [hN, ← hl, show p'.length + (ls.length + 1) = (p' ++ (AObj.loop r' le :: ls)).length by simp, show p' ++ (AObj.loop r' le :: (ls ++ junk)) = (p' ++ (AObj.loop r' le :: ls)) ++ junk by simp]
      exact List.take_left) (by simp [hl]) (fun i o ho => by
      rcases Nat.lt_or_ge i p'.length with hlt | hge
      · rw [List.getElem?_append_left hlt] at ho
        rcases hk i o ho with h1 | h1
        · left
          rw [List.getElem?_append_left (by omega)]
          exact h1
        · right
          rw [hN]
          exact cleanO_mono (by omega) o h1
      · rw [List.getElem?_append_right hge] at ho
        cases e : i - p'.length with
        | zero =>
          rw [e] at ho
          simp at ho
          subst ho
          right
          rw [hN]
          refine cleanL_iff.2 fun j c hc => ?_
          have hltj : j < r.tmps.size := by rw [m4]; exact (List.getElem?_eq_some_iff.1 hc).1
          have := (m8 j c r.tmps[j] hc (Array.getElem?_eq_getElem hltj)).clean
          rwa [hs.len, hN] at this
        | succ k =>
          rw [e] at ho
          left
          rw [List.getElem?_append_right (by omega), show i - p.length = k + 1 by omega]
          simpa using ho)
  exact ⟨.b x, _, _, hq p' hl hk hy, q1, q2, .b x, topOwn_of trivial (fun cs e => by cases e), fun bk sl h e => .inl (by
    obtain ⟨id, j, e2⟩ := (onlyO_some (y := (sl, h)) e).2
    exact ⟨id, j, e2⟩)⟩

theorem aputs_ok {tmps : Array Value} : ∀ (ts : List Nat) (x : List AV) (us : List Value) {le : AEnv} {tmps : Array Value}, EnvOK g le tmps → x.length = us.length → (∀ (j : Nat) (c : AV) (v : Value), x[j]? = some c → us[j]? = some v → R g.S g.ρ c v ∧ Pl c) →
    EnvOK g (aputs le (ts.zip x)) ((ts.zip us).foldl (fun tmps (t, a) => tmps.setIfInBounds t a) tmps)
  | [], x, us, le, tmps, h, _, _ => h
  | t :: ts, [], [], le, tmps, h, _, _ => h
  | t :: ts, c :: x, v :: us, le, tmps, h, hl, hR => by
    have h0 := hR 0 c v rfl rfl
    exact aputs_ok (tmps := tmps) ts x us (h.put (d := t) h0.1 (h0.2 g t v)) (by simpa using hl) fun j c v h1 h2 => hR (j + 1) c v (by simpa using h1) (by simpa using h2)

/-- A call of yield, told by the body. -/
theorem round_calls {x : List AV} {Y : AState → Prop} {Z : Code → AState → Prop} (hGp : GPl G) (hst : r.state = .ready) (hpd : r.pending = none) (hps : r.params.size = x.length) (hle : ∀ (j : Nat) c, le[j]? = some c → Pl c) (hxp : ∀ (j : Nat) c, x[j]? = some c → Pl c)
    (h : AWp P anyR G r.assign (thenQ (fun env1 s1 => s1[p.length]? = some (.loop r le) ∧ AWp P anyR G r.body (roundQ p r le ls Y Z) env1 (s1.set p.length (.loop { r with state := .busy } le))) (fun _ _ _ => False)) (aputs le (r.params.toList.zip x)) (p ++ (.loop r le :: ls))) :
    YCalls P G p.length x (p ++ (.loop r le :: ls)) (roundR p r le ls Y Z) := by
  intro g w vs bk hs ho hG hl hR hb
  obtain ⟨b1, m2, m3, m4, m6, m7, m8⟩ := hs.obj p.length (.loop r le) (by rw [st_get0]; rfl)
  rw [hb] at m2
  cases m2
  rw [run_yield m3 (by rw [hl, hps])]
  show ∀ (rr : Option Nat) (n : Nat), RoundIn (FW rr) n P bk r.fn _ r.assign r.body w _
  intro rr n
  refine roundIn_of_wpIn trivial ?_
  have henv : EnvOK g (aputs le (r.params.toList.zip x)) ((r.params.zip vs).foldl (fun tmps (t, a) => tmps.setIfInBounds t a) r.tmps) := by
    have h1 : EnvOK g le r.tmps := ⟨m4, fun i c v hc hv => ⟨m8 i c v hc hv, hle i c hc g i v⟩⟩
    have h2 := aputs_ok (tmps := r.tmps) r.params.toList x vs.toList h1 (by simp [hl]) fun j c v hc hv => ⟨(hR j c v hc (by simpa using hv)).1, hxp j c hc⟩
    have h3 : (r.params.zip vs).foldl (fun tmps (t, a) => tmps.setIfInBounds t a) r.tmps = (r.params.toList.zip vs.toList).foldl (fun tmps (t, a) => tmps.setIfInBounds t a) r.tmps := by
      rw [← Array.foldl_toList, Array.toList_zip]
    rw [h3]
    exact h2
  have hA := h g w [] (some bk) n { tmps := (r.params.zip vs).foldl (fun tmps (t, a) => tmps.setIfInBounds t a) r.tmps, defers := [] } w trivial hGp hG ⟨rfl, g, Ext.refl g w, hs, henv⟩
  refine wpIn_mono hA fun e a1 w1 q => ?_
  cases e with
  | normal =>
    obtain ⟨env1, s1, ⟨k1, k2⟩, g1, ms, hd, hm, hx1, hs1, he1⟩ := q
    have hb1 := hx1.ρ _ _ hb
    obtain ⟨n1, n2⟩ := hs1.setLoop (r' := { r with state := .busy }) k1 hb1 rfl
    refine ⟨_, run_beginRound n1 hst, ?_⟩
    have hB := k2.two (r := some bk) (n := n) (D := []) trivial hGp hG ⟨g1, ms, hd, hm.later (Ext.setLoop hb1 _), hx1.trans (Ext.setLoop hb1 _), n2, he1⟩
    refine wpIn_mono hB fun e2 a2 w3 q2 => ?_
    have jump : ∀ (c : Code) env s, RoundEnd p r le ls s (Z c) → Inv2 g w [] env s a2 w3 → ∃ v w', (Instr.endRound bk (some c)).run P w3 = .ok v w' ∧ PostA g w (roundR p r le ls Y Z) (.returned v) w' := fun c env s h1 h2 => by
      obtain ⟨q1, q2⟩ := round_end (r' := { r with state := .done, pending := some c }) (x := false) (Qr := roundR p r le ls Y Z) hs hb rfl h1 h2 (fun p' h3 hkc h4 => .inr ⟨p', c, rfl, rfl, h3, hkc, h4⟩)
      exact ⟨_, _, run_endRound (some c) q1, q2⟩
    cases e2 with
    | normal =>
      obtain ⟨env, s, h1, h2⟩ := q2
      obtain ⟨q1, q2⟩ := round_end (r' := r) (x := true) (Qr := roundR p r le ls Y Z) hs hb rfl h1 h2 (fun p' h3 hkc h4 => .inl ⟨p', rfl, rfl, h3, hkc, h4⟩)
      have hr : ({ { r with state := LoopState.busy } with state := if (none : Option Code).isNone then LoopState.ready else LoopState.done, pending := none } : Loop) = r := by
        cases r
        simp_all
      have := run_endRound (P := P) none q1
      rw [hr] at this
      exact ⟨_, _, this, q2⟩
    | ret => obtain ⟨env, s, h1, h2⟩ := q2; exact jump _ env s h1 h2
    | exit id => obtain ⟨env, s, h1, h2⟩ := q2; exact jump _ env s h1 h2
    | goto l => obtain ⟨env, s, h1, h2⟩ := q2; exact jump _ env s h1 h2
    | panic ch => obtain ⟨x, v, env, s, g, ms, _, h1, _⟩ := q2; exact h1.elim
    | outgrown => exact q2.elim
  | ret => obtain ⟨env, s, h1, h2⟩ := q; exact h1.elim
  | exit id => obtain ⟨env, s, h1, h2⟩ := q; exact h1.elim
  | goto l => obtain ⟨env, s, h1, h2⟩ := q; exact h1.elim
  | panic ch => obtain ⟨x, v, env, s, g, ms, _, h1, _⟩ := q; exact h1.elim
  | outgrown => exact q.elim

end
end Go.Proofs.Ytoofpdmdgofdcaa.E

namespace Go.Proofs.Ytoofpdmdgofdcaa.E
open Go Go.RowKit
set_option linter.unusedVariables false
set_option linter.unusedSimpArgs false

variable {P : Program}

/-- What an iterator does: it yields these, one behind the other, until a round has said 'no more'. 'T': the state, so many having come; 'F': the same, where no more is wanted. -/
def Iter (P : Program) (G : Nat → AV) (f : FuncId) (cap : List AV) (xs : List (List AV)) : Prop :=
  ∀ (id : Nat) (T F : List (List AV) → AState → Prop) (σ : AState),
    (∀ dn s, T dn s → s.length = σ.length) → (∀ dn s, F dn s → s.length = σ.length) →
    (∀ dn x rest s ls, xs = dn ++ x :: rest → T dn s → YCalls P G id x (s ++ ls) fun y t => ∃ s', t = s' ++ ls ∧ ((y = .ret (.b true) ∧ T (dn ++ [x]) s') ∨ (y = .ret (.b false) ∧ F (dn ++ [x]) s'))) →
    T [] σ → ∀ ls, ACalls P G f (.yl id :: cap) (σ ++ ls) fun y t => ∃ c s', y = .ret c ∧ t = s' ++ ls ∧ (T xs s' ∨ ∃ dn, F dn s')

/-- The same, where what comes is not told beforehand: 'ok dn x': x may come after dn; 'full dn': dn may be all; 'I': what holds of the state meanwhile. -/
def IterP (P : Program) (G : Nat → AV) (f : FuncId) (cap : List AV) (I : AState → Prop) (ok : List (List AV) → List AV → Prop) (full : List (List AV) → Prop) : Prop :=
  ∀ (id : Nat) (T F : List (List AV) → AState → Prop) (σ : AState),
    (∀ dn s, T dn s → s.length = σ.length) → (∀ dn s, F dn s → s.length = σ.length) → (∀ dn s, T dn s → I s) →
    (∀ dn x s ls, ok dn x → T dn s → YCalls P G id x (s ++ ls) fun y t => ∃ s', t = s' ++ ls ∧ ((y = .ret (.b true) ∧ T (dn ++ [x]) s') ∨ (y = .ret (.b false) ∧ F (dn ++ [x]) s'))) →
    T [] σ → ∀ ls, ACalls P G f (.yl id :: cap) (σ ++ ls) fun y t => ∃ c s', y = .ret c ∧ t = s' ++ ls ∧ ((∃ dn, full dn ∧ T dn s') ∨ ∃ dn, F dn s')

theorem Iter.toP {G : Nat → AV} {f : FuncId} {cap : List AV} {xs : List (List AV)} (h : Iter P G f cap xs) : IterP P G f cap (fun _ => True) (fun dn x => ∃ rest, xs = dn ++ x :: rest) (fun dn => dn = xs) := fun id T F σ hT hF _ hy h0 ls =>
  (h id T F σ hT hF (fun dn x rest s ls hx ht => hy dn x s ls ⟨rest, hx⟩ ht) h0 ls).mono fun y t ⟨c, s', h1, h2, h3⟩ => ⟨c, s', h1, h2, h3.imp (fun h => ⟨xs, rfl, h⟩) (fun h => h)⟩

section
variable {G : Nat → AV} {g g0 g1 : Gh} {w w0 w1 : World} {σ s p ls : AState} {r : Loop} {le : List AV}

theorem Sim.alloc_loop (hs : Sim g σ w) (r : Loop) (le : List AV) (hl : r.tmps.size = le.length) (hr : ∀ (j : Nat) (c : AV) (v : Value), le[j]? = some c → r.tmps[j]? = some v → R g.S (g.ρ ++ [w.heap.size]) c v) :
    Sim { g with ρ := g.ρ ++ [w.heap.size] } (σ ++ [.loop r le]) (w.alloc (.loop r)) where
  imm := fun bk o v h => by
    have h1 := hs.imm bk o v h
    have h2 := heap_alloc_lt (o := .loop r) (hs.S_lt h)
    simp only [World.cell?] at *
    rw [h2]
    exact h1
  len := by simp [hs.len]
  inj := fun i j bk h1 h2 => by
    rcases ρ_app_cases h1 with h1 | ⟨h1, h1'⟩ <;> rcases ρ_app_cases h2 with h2 | ⟨h2, h2'⟩
    · exact hs.inj i j bk h1 h2
    · have := hs.ρ_lt h1; omega
    · have := hs.ρ_lt h2; omega
    · omega
  obj := fun id o ho => by
    have hx := Ext.alloc_obj hs (.loop r)
    rcases Nat.lt_or_ge id σ.length with hlt | hge
    · rw [List.getElem?_append_left hlt] at ho
      have h1 := hs.obj id o ho
      cases o with
      | cells cs =>
        obtain ⟨bk, us, E', fr', h2, h3, h4, h5, h6, h7, h8⟩ := h1
        exact ⟨bk, us, E', fr', ρ_app h2, (heap_alloc_lt (heap_lt h3)).trans h3, h4, h5, h6, h7, fun j c v hc hv => ⟨(h8 j c v hc hv).1.ext hx, (h8 j c v hc hv).2⟩⟩
      | map es =>
        obtain ⟨bk, ms, clock, h2, h3, h4, h6, h7, h8⟩ := h1
        exact ⟨bk, ms, clock, ρ_app h2, (heap_alloc_lt (heap_lt h3)).trans h3, h4, h6, h7, fun j c v hc hv => ⟨(h8 j c v hc hv).1.ext hx, (h8 j c v hc hv).2.ext hx⟩⟩
      | loop r es =>
        obtain ⟨bk, h2, h3, h4, h6, h7, h8⟩ := h1
        exact ⟨bk, ρ_app h2, (heap_alloc_lt (heap_lt h3)).trans h3, h4, h6, h7, fun j c v hc hv => (h8 j c v hc hv).ext hx⟩
      | it itn its es =>
        obtain ⟨bk, itx, h2, h3, h4, h6, h7, h8⟩ := h1
        exact ⟨bk, itx, ρ_app h2, (heap_alloc_lt (heap_lt h3)).trans h3, h4, h6, h7, fun j c v hc hv => (h8 j c v hc hv).ext hx⟩
    · rw [List.getElem?_append_right hge] at ho
      rcases Nat.eq_or_lt_of_le hge with h2 | h2
      · subst h2
        simp at ho
        subst ho
        refine ⟨w.heap.size, ?_, heap_alloc_new w _, hl, fun o => hs.S_new (Nat.le_refl _) o, ?_, hr⟩
        · show (g.ρ ++ [w.heap.size])[σ.length]? = _
          rw [← hs.len]
          simp
        · show g.ow w.heap.size = none
          cases e : g.ow w.heap.size with
          | none => rfl
          | some x => have := hs.ow_lt e; omega
      · rw [List.getElem?_eq_none (by simp; omega)] at ho
        cases ho
  own := fun bk sl hh ee ho => by
    obtain ⟨vs, E, fr, k1, k2⟩ := hs.own bk sl hh ee ho
    exact ⟨vs, E, fr, (heap_alloc_lt (heap_lt k1)).trans k1, k2⟩

theorem AWp.rangeFuncP {Q : AX → AEnv → AState → Prop} {env : AEnv} {gop : Operand} {ps : Array Tmp} {assign body c : Code} {f : FuncId} {cap : List AV} {fn : Func} {I : AState → Prop} {ok : List (List AV) → List AV → Prop} {full : List (List AV) → Prop} (Y : List (List AV) → AState → Prop) (Z : Code → AState → Prop)
    (hf : P.funcs[f]? = some fn) (hb : fn.body = some c) (hng : (fn.name == "runtime.NumGoroutine") = false) (hev : ev G env gop = .fn f cap) (hit : IterP P G f (cap.map AV.pl) I ok full)
    (hI : ∀ dn p o, p.length = σ.length → Y dn p → I (p ++ [o]))
    (hxs : ∀ dn x, ok dn x → x.length = ps.size ∧ ∀ (j : Nat) c, x[j]? = some c → Pl c) (h0 : Y [] σ)
    (hbody : ∀ dn x p ls (r : Loop), ok dn x → p.length = σ.length → Y dn p →
      AWp P anyR G assign (thenQ (fun env1 s1 => s1[p.length]? = some (.loop r (env.map AV.pl)) ∧ AWp P anyR G body (roundQ p r (env.map AV.pl) ls (Y (dn ++ [x])) Z) env1 (s1.set p.length (.loop { r with state := .busy } (env.map AV.pl)))) (fun _ _ _ => False))
        (aputs (env.map AV.pl) (ps.toList.zip x)) (p ++ (.loop r (env.map AV.pl) :: ls)))
    (hdone : ∀ dn p, full dn → p.length = σ.length → Y dn p → Q .normal env p) (hjump : ∀ c p, p.length = σ.length → Z c p → AWp P plainR G c Q env p) : AWp P plainR G (.rangeFunc gop ps assign body) Q env σ := by
  intro g0 w0 D rr n a w hr hGp hG hi
  have hr : rr = none := hr
  subst hr
  obtain ⟨hd, g, hx, hs, he⟩ := hi
  have hve := R.ev (hG.ext hx) he gop
  rw [hev] at hve
  generalize hgv : a.eval gop = gv at hve
  cases hve with
  | fn _ _ vs hvl hvR =>
  refine wpIn_rangeFunc fun fnid _ => ?_
  let b := w.heap.size
  let rec0 : Loop := { state := .ready, pending := none, fn := fnid, tmps := a.tmps, params := ps, assign, body, defers := w.heap.size }
  let gO : Gh := { g with ow := onlyO g.ow }
  have hsO : Sim gO σ w := hs.onlyO
  have hsA : Sim gO σ (w.alloc (.deferred (some []))) := hsO.world fun bk hb => heap_alloc_lt hb
  have hxA : Ext gO w gO (w.alloc (.deferred (some []))) := (Ext.refl gO w).world (σ := σ) (fun bk hb => heap_alloc_lt hb) rfl rfl rfl (by simp)
  have hle : (a.tmps).size = (env.map AV.pl).length := by rw [List.length_map]; exact he.1
  have hleR : ∀ (j : Nat) (c : AV) (v : Value), (env.map AV.pl)[j]? = some c → a.tmps[j]? = some v → R g.S g.ρ c v := fun j c v hc hv => by
    rw [List.getElem?_map, Option.map_eq_some_iff] at hc
    obtain ⟨c0, hc0, rfl⟩ := hc
    exact (he.2 j c0 v hc0 hv).1.pl
  have hxL := Ext.alloc_obj hsA (.loop rec0)
  have hsL := hsA.alloc_loop rec0 (env.map AV.pl) hle (fun j c v hc hv => (hleR j c v hc hv).ext hxL)
  have hw2 : ((w.alloc (.deferred (some []))).alloc (.loop rec0)).heap[w.heap.size]? = some (.deferred (some [])) := (heap_alloc_lt (by simp)).trans (heap_alloc_new w _)
  have hsz : (w.alloc (.deferred (some []))).heap.size = w.heap.size + 1 := by simp
  have hlpl : ∀ (j : Nat) c, (env.map AV.pl)[j]? = some c → Pl c := fun j c hc => by
    rw [List.getElem?_map, Option.map_eq_some_iff] at hc
    obtain ⟨c0, hc0, rfl⟩ := hc
    exact Pl.pl c0
  -- the rounds
  let T : List (List AV) → AState → Prop := fun dn s => ∃ p', s = p' ++ [.loop rec0 (env.map AV.pl)] ∧ p'.length = σ.length ∧ KC σ p' ∧ Y dn p'
  let F : List (List AV) → AState → Prop := fun dn s => ∃ p' c, s = p' ++ [.loop { rec0 with state := .done, pending := some c } (env.map AV.pl)] ∧ p'.length = σ.length ∧ KC σ p' ∧ Z c p'
  have hcall := hit σ.length T F (σ ++ [.loop rec0 (env.map AV.pl)]) (fun dn s ⟨p', h1, h2, _⟩ => by rw [h1]; simp [h2]) (fun dn s ⟨p', c, h1, h2, _⟩ => by rw [h1]; simp [h2]) (fun dn s ⟨p', h1, h2, _, h4⟩ => by rw [h1]; exact hI dn p' _ h2 h4) (fun dn x s ls hx1 ⟨p', h1, h2, h3, h4⟩ => by
      subst h1
      have hrc := round_calls (r := rec0) (le := env.map AV.pl) (p := p') (ls := ls) (x := x) (Y := Y (dn ++ [x])) (Z := Z) hGp rfl rfl ((hxs dn x hx1).1.symm) hlpl (hxs dn x hx1).2 (hbody dn x p' ls rec0 hx1 h2 h4)
      rw [h2] at hrc
      have e1 : (p' ++ [AObj.loop rec0 (env.map AV.pl)]) ++ ls = p' ++ (.loop rec0 (env.map AV.pl) :: ls) := by simp
      rw [e1]
      intro g' w' vs' bk' q1 q2 q3 q4 q5 q6
      refine next1_mono ?_ (hrc g' w' vs' bk' q1 q2 q3 q4 q5 q6)
      intro e w'' hp
      cases e with
      | returned v =>
        obtain ⟨y, σ', g'', hy, hrest⟩ := hp
        refine ⟨y, σ', g'', ?_, hrest⟩
        rcases hy with ⟨p2, k1, k2, k3, k4, k5⟩ | ⟨p2, c2, k1, k2, k3, k4, k5⟩
        · exact ⟨p2 ++ [.loop rec0 (env.map AV.pl)], by rw [k2]; simp, .inl ⟨k1, p2, rfl, by rw [k3, h2], h3.trans h2 k4, k5⟩⟩
        · exact ⟨p2 ++ [.loop { rec0 with state := .done, pending := some c2 } (env.map AV.pl)], by rw [k2]; simp, .inr ⟨k1, p2, c2, rfl, by rw [k3, h2], h3.trans h2 k4, k5⟩⟩
      | panicked ch =>
        obtain ⟨y, v, σ', g'', _, hy, _⟩ := hp
        rcases hy with ⟨p2, k1, _⟩ | ⟨p2, c2, k1, _⟩ <;> cases k1
      | outgrown => exact hp.elim) ⟨σ, rfl, rfl, KC.refl σ, h0⟩ []
  have hgl : (gO.ρ ++ [(w.alloc (.deferred (some []))).heap.size])[σ.length]? = some (w.heap.size + 1) := by
    rw [hsz, ← hs.len]
    simp [gO]
  have hcap : ∀ (j : Nat) (c : AV) (v : Value), (AV.yl σ.length :: cap.map AV.pl)[j]? = some c → (#[Value.func (.yield (w.heap.size + 1)) #[] #[]] ++ vs)[j]? = some v → R g.S (gO.ρ ++ [(w.alloc (.deferred (some []))).heap.size]) c v ∧ Pl c := fun j c v hc hv => by
    cases j with
    | zero =>
      rw [Array.getElem?_append_left (by simp)] at hv
      simp at hc hv
      subst hc
      subst hv
      exact ⟨.yl _ _ hgl, pl_mk (by simp) (by simp)⟩
    | succ j =>
      rw [List.getElem?_cons_succ, List.getElem?_map, Option.map_eq_some_iff] at hc
      obtain ⟨c0, hc0, rfl⟩ := hc
      have hv : vs[j]? = some v := by
        rw [Array.getElem?_append_right (by simp)] at hv
        simpa using hv
      exact ⟨((hvR j c0 v hc0 hv).pl).ext hxL, Pl.pl c0⟩
  rw [List.append_nil] at hcall
  have hN := hcall { gO with ρ := gO.ρ ++ [(w.alloc (.deferred (some []))).heap.size] } ((w.alloc (.deferred (some []))).alloc (.loop rec0)) (#[.func (.yield (w.heap.size + 1)) #[] #[]] ++ vs) hsL (OnlyO.of g) (((hG.ext hx).ext (Ext.onlyO (w := w))).ext (hxA.trans hxL)) (by simp [hvl]; omega)
    (fun j c v hc hv => ⟨(hcap j c v hc hv).1, (hcap j c v hc hv).2 _ j v⟩)
  rw [enter_run hf hb hng] at hN
  have hN : Calls P f (#[.func (.yield (w.heap.size + 1)) #[] #[]] ++ vs) ((w.alloc (.deferred (some []))).alloc (.loop rec0)) _ := hN
  refine ⟨w.heap.size + 1, [{ target := .collected w.heap.size, args := #[] }], (w.alloc (.deferred (some []))).alloc (.loop rec0), { target := .fn (.func f) vs, args := #[.func (.yield (w.heap.size + 1)) #[] #[]] }, (w.alloc (.deferred (some []))).alloc (.loop rec0), f, #[.func (.yield (w.heap.size + 1)) #[] #[]] ++ vs, (w.alloc (.deferred (some []))).alloc (.loop rec0), ?_, ?_, fun _ _ => trivial, ?_, (fun h => by cases h), ?_⟩
  · exact run_enterLoop_outer fnid a.tmps ps assign body
  · have hve2 : a.eval (.const (.func (.yield (w.heap.size + 1)) #[] #[])) = .func (.yield (w.heap.size + 1)) #[] #[] := rfl
    simp [resolve, rangeCall, hgv, Deferred.ofValue, hve2]
  · simp only [invoke]
    exact enter_run hf hb hng
  · refine (callsIn_FW hN).mono fun e w3 hp => ?_
    cases e with
    | panicked ch =>
      obtain ⟨y, v, σ', g', _, ⟨c, s', hy, _⟩, _⟩ := hp
      cases hy
    | outgrown => exact hp.elim
    | returned v =>
      obtain ⟨y, σ', g', ⟨c, s', hy, ht, hTF⟩, hx3, hs3, _, _, hO3⟩ := hp
      rw [List.append_nil] at ht
      have ht := ht.symm
      subst ht
      have hgl3 : g'.ρ[σ.length]? = some (w.heap.size + 1) := hx3.ρ _ _ hgl
      -- behind the loop: the record's end, and what it was forgotten
      have fin : ∀ (p' : AState) (rc : Loop), s' = p' ++ [.loop rc (env.map AV.pl)] → p'.length = σ.length → KC σ p' → w3.heap[w.heap.size + 1]? = some (.loop rc) ∧ Inv2 g0 w0 D env p' { a with defers := [{ target := .collected w.heap.size, args := #[] }] ++ a.defers } (w3.putObj (w.heap.size + 1) (.loop { rc with state := .exhausted })) := fun p' rc hs' hl' hk' => by
        subst hs'
        obtain ⟨k1, k2⟩ := hs3.setLoop (id := σ.length) (r := rc) (r' := { rc with state := .exhausted }) (le := env.map AV.pl) (by rw [← hl', st_get0]; rfl) hgl3 rfl
        refine ⟨k1, ?_⟩
        have hx4 : Ext gO w g' (w3.putObj (w.heap.size + 1) (.loop { rc with state := .exhausted })) := ((hxA.trans hxL).trans hx3).trans (Ext.setLoop hgl3 _)
        have hset : (p' ++ [AObj.loop rc (env.map AV.pl)]).set σ.length (.loop { rc with state := .exhausted } (env.map AV.pl)) = p' ++ [.loop { rc with state := .exhausted } (env.map AV.pl)] := by
          rw [← hl', st_set0]
          rfl
        rw [hset] at k2
        obtain ⟨q1, q2⟩ := drop_newP (p := p') hx4 hsO k2 (by rw [← hl']; exact List.take_left) hl' hk'
        obtain ⟨z1, z2, z3, _⟩ := back (d := 0) (r := .u) (v := undef) hx hs he q1 q2 ⟨trivial, fun cs vs e => by cases e⟩ hO3
        have hmark : (w3.putObj (w.heap.size + 1) (.loop { rc with state := .exhausted })).heap[w.heap.size]? = some (.deferred (some [])) := by
          rw [World.putObj_heap_other (by omega)]
          refine ((hx3.keep w.heap.size (by simp; omega) (fun id e => ?_) ?_).1).trans hw2
          · rcases ρ_app_cases e with h1 | ⟨_, h1⟩
            · have := hs.ρ_lt h1; omega
            · omega
          · show onlyO g.ow w.heap.size = none
            cases e : g.ow w.heap.size with
            | none => simp [onlyO, e]
            | some x => have := hs.ow_lt e; omega
        refine ⟨_, [{ target := .collected w.heap.size, args := #[] }], by rw [hd], ⟨fun m hm => ?_, List.pairwise_singleton _ _⟩, z1, z2, z3⟩
        simp at hm
        subst hm
        refine ⟨w.heap.size, rfl, hx.size, hmark, fun id e => ?_, ?_⟩
        · have := hs.ρ_lt (show g.ρ[id]? = some w.heap.size from e)
          omega
        · show backOw g.ow g'.ow 0 w.heap.size = none
          have h1 : g.ow w.heap.size = none := by
            cases e : g.ow w.heap.size with
            | none => rfl
            | some x => have := hs.ow_lt e; omega
          have h2 : g'.ow w.heap.size = none := by
            cases e : g'.ow w.heap.size with
            | none => rfl
            | some x =>
              rcases hx3.newow _ x e with h6 | h6
              · simp at h6; omega
              · exact absurd (show onlyO g.ow w.heap.size = none by simp [onlyO, h1]) h6
          simp [backOw, h1, h2]
      rcases hTF with ⟨dn, hfl, p', h1, h2, h3, h4⟩ | ⟨dn, p', c', h1, h2, h3, h4⟩
      · obtain ⟨k1, k2⟩ := fin p' rec0 h1 h2 h3
        exact ⟨none, _, run_endLoop k1 (by simp [rec0]), env, p', hdone dn p' hfl h2 h4, k2⟩
      · obtain ⟨k1, k2⟩ := fin p' _ h1 h2 h3
        exact ⟨some c', _, run_endLoop k1 (by simp), (hjump c' p' h2 h4).two rfl hGp hG k2⟩


theorem AWp.rangeFunc {Q : AX → AEnv → AState → Prop} {env : AEnv} {gop : Operand} {ps : Array Tmp} {assign body c : Code} {f : FuncId} {cap : List AV} {fn : Func} {xs : List (List AV)} (Y : List (List AV) → AState → Prop) (Z : Code → AState → Prop)
    (hf : P.funcs[f]? = some fn) (hb : fn.body = some c) (hng : (fn.name == "runtime.NumGoroutine") = false) (hev : ev G env gop = .fn f cap) (hit : Iter P G f (cap.map AV.pl) xs)
    (hxs : ∀ x ∈ xs, x.length = ps.size ∧ ∀ (j : Nat) c, x[j]? = some c → Pl c) (h0 : Y [] σ)
    (hbody : ∀ dn x rest p ls (r : Loop), xs = dn ++ x :: rest → p.length = σ.length → Y dn p →
      AWp P anyR G assign (thenQ (fun env1 s1 => s1[p.length]? = some (.loop r (env.map AV.pl)) ∧ AWp P anyR G body (roundQ p r (env.map AV.pl) ls (Y (dn ++ [x])) Z) env1 (s1.set p.length (.loop { r with state := .busy } (env.map AV.pl)))) (fun _ _ _ => False))
        (aputs (env.map AV.pl) (ps.toList.zip x)) (p ++ (.loop r (env.map AV.pl) :: ls)))
    (hdone : ∀ p, p.length = σ.length → Y xs p → Q .normal env p) (hjump : ∀ c p, p.length = σ.length → Z c p → AWp P plainR G c Q env p) : AWp P plainR G (.rangeFunc gop ps assign body) Q env σ := by
  refine AWp.rangeFuncP Y Z hf hb hng hev hit.toP (fun _ _ _ _ _ => trivial) (fun dn x ⟨rest, hx⟩ => hxs x (by rw [hx]; simp)) h0 (fun dn x p ls r ⟨rest, hx⟩ h1 h2 => hbody dn x rest p ls r hx h1 h2) (fun dn p hdn h1 h2 => hdone p h1 (hdn ▸ h2)) hjump

end
end Go.Proofs.Ytoofpdmdgofdcaa.E

namespace Go.Proofs.Ytoofpdmdgofdcaa.E
open Go Go.RowKit
set_option linter.unusedVariables false
set_option linter.unusedSimpArgs false

variable {P : Program}

section
variable {F : Fence} {n : Nat} {Q : Exit → Act → World → Prop} {a : Act} {w : World}

theorem stepR_scope {b : Frame} {k : List Item} {cs : List Frame} {c : Code} : step P (lone (b.atR a (.code (.scope c) :: k)) cs w) = .next (lone (b.atR a (.code c :: .inScope c :: k)) cs w) :=
  step_lone_go (by simp [stepG, stepG.exec, Frame.atR])

theorem stepR_inScope {b : Frame} {k : List Item} {cs : List Frame} {c : Code} : step P (lone (b.atR a (.inScope c :: k)) cs w) = .next (lone (b.atR a k) cs w) :=
  step_lone_go (by simp [stepG, stepG.exec, Frame.atR])

theorem wpIn_scope {c : Code} (h : c.wpIn F n P (Exit.noGoto Q) a w) : (Code.scope c).wpIn F n P Q a w := by
  intro b k cs hro hb hr
  have h0 : (lone (b.atR a (.code (.scope c) :: k)) cs w).fenced P F := fenced_calm hb hr rfl
  obtain ⟨e, a₁, w₁, hq, harr⟩ := h b (.inScope c :: k) cs hro hb hr
  cases e with
  | normal => exact ⟨.normal, a₁, w₁, hq, .head h0 stepR_scope (StepsIn.trans harr (.one (fenced_calm hb hr rfl) stepR_inScope))⟩
  | exit id' =>
    have hx : exitTo id' (.inScope c :: k) = exitTo id' k := by simp [exitTo]
    exact ⟨.exit id', a₁, w₁, hq, fun k' hk => .head h0 stepR_scope (harr.1 k' (by rw [hx]; exact hk)),
      fun hr' hk => let ⟨k₁, h1, h2⟩ := harr.2 hr' (by rw [hx]; exact hk); ⟨k₁, h1, .head h0 stepR_scope h2⟩⟩
  | goto l => exact hq.elim
  | ret => exact ⟨_, a₁, w₁, hq, .of_steps (.one h0 stepR_scope) harr⟩
  | panic ch => exact ⟨_, a₁, w₁, hq, .of_steps (.one h0 stepR_scope) harr⟩
  | outgrown => exact ⟨_, a₁, w₁, hq, .of_steps (.one h0 stepR_scope) harr⟩
end

def scopeQ (Q : AX → AEnv → AState → Prop) : AX → AEnv → AState → Prop
  | .goto _ => fun _ _ => False
  | x => Q x

/-- For each operation, as bits, the ones before it. -/
def befD (ops : List Oper) : List Nat :=
  ops.foldl (fun bs o => bs ++ [(edges o).foldl (fun m e => m ||| (1 <<< e) ||| bs.getD e 0) 0]) []

def noC (ops : List Oper) : List Bool := ops.map fun _ => false
def drawF (ops : List Oper) : List (Oper × Bool) := ops.map fun o => (o, false)

theorem zip_noC : ∀ ops : List Oper, ops.zip (noC ops) = drawF ops
  | [] => rfl
  | o :: ops => by
    have := zip_noC ops
    simp only [noC, drawF, List.map_cons, List.zip_cons_cons] at *
    rw [this]

section
variable {rs : Option Nat → Prop} {G : Nat → AV} {Q : AX → AEnv → AState → Prop} {env : AEnv} {σ : AState}

theorem AWp.scope {c : Code} (h : AWp P rs G c (scopeQ Q) env σ) : AWp P rs G (.scope c) Q env σ := fun g0 w0 D r n a w hr h1 h2 h3 =>
  wpIn_scope (wpIn_mono (h g0 w0 D r n a w hr h1 h2 h3) fun e a' w' q => by
    cases e with
    | normal => exact q
    | exit id => exact q
    | goto l => obtain ⟨env, σ, k1, k2⟩ := q; exact k1.elim
    | ret => exact q
    | panic ch => exact q
    | outgrown => exact q)

/-- A region that draws its order, where no call may come before or after another operation that looks at the state. -/
theorem AWp.draw0 {id : Nat} {ops : List Oper} (hm : P.follows .mixedOrders = true) (hok : okD ops (befD ops) (noC ops) = true) (h : awD P G ops Q (drawF ops) env σ) : AWp P rs G (.region id ⟨ops⟩ true) Q env σ :=
  AWp.draw (befD ops) (noC ops) hm hok (by rw [zip_noC]; exact h)

theorem awD_nil {ops : List Oper} : awD P G ops Q [] env σ = Q .normal env σ := rfl

theorem awD_step {ops : List Oper} {o : Oper} {cf : Bool} {rest : List (Oper × Bool)} (h : match gval ops env o with
    | some b => brK b (if isCallF o.op then acallD P G cf o env σ (putK (awD P G ops Q rest) env o.dst) else aopW P G cf o env σ (putK (awD P G ops Q rest) env o.dst)) (awD P G ops Q rest (aput env o.dst (.tup [])) σ)
    | none => False) : awD P G ops Q ((o, cf) :: rest) env σ := h

@[congr] theorem awD_congr {ops : List Oper} {l : List (Oper × Bool)} {env' : AEnv} {σ' : AState} (h : env = env') (h' : σ = σ') : awD P G ops Q l env σ = awD P G ops Q l env' σ' := by rw [h, h']

/-- What a function gives: this, and the state is as it was. -/
def retIs (c : AV) (σ : AState) : ARes → AState → Prop := fun r s => r = .ret c ∧ s = σ

theorem ACalls.use {K : AEnv → AState → Prop} {d : Option Tmp} {f : FuncId} {args : List AV} {c : AV} (h : ACalls P G f args σ (retIs c σ)) (hk : K (aput env d c) σ) : ACalls P G f args σ (callK K Q env d) :=
  h.mono fun r s ⟨h1, h2⟩ => by subst h1; subst h2; exact hk

theorem ACalls.useV {KV : AV → AState → Prop} {f : FuncId} {args : List AV} {c : AV} (h : ACalls P G f args σ (retIs c σ)) (hk : KV c σ) : ACalls P G f args σ (callV KV) :=
  h.mono fun r s ⟨h1, h2⟩ => by subst h1; subst h2; exact hk

theorem YCalls.mono {id : Nat} {args : List AV} {Qr Qr' : ARes → AState → Prop} (h : YCalls P G id args σ Qr) (hq : ∀ r s, Qr r s → Qr' r s) : YCalls P G id args σ Qr' := by
  intro g w vs bk h1 h2 h3 h4 h5 h6
  refine next1_mono (fun e w' hp => ?_) (h g w vs bk h1 h2 h3 h4 h5 h6)
  cases e with
  | returned v =>
    obtain ⟨r, σ', g', k1, k2⟩ := hp
    exact ⟨r, σ', g', hq _ _ k1, k2⟩
  | panicked ch =>
    obtain ⟨x, v, σ', g', k0, k1, k2⟩ := hp
    exact ⟨x, v, σ', g', k0, hq _ _ k1, k2⟩
  | outgrown => exact hp

theorem ev_func (f : FuncId) : ev G env (.func f) = .fn f [] := rfl

theorem add_lt_self (n k : Nat) : (n + k < n) = False := by simp

/-- Nothing is known of the package variables. -/
def G0 : Nat → AV := fun _ => .u
theorem G0_pl : GPl G0 := fun n => ⟨fun _ _ _ e => (by cases e), fun _ e => (by cases e)⟩
theorem G0_ok (g : Gh) : GOK G0 g := fun n => .u _

/-- What is known by the values' sizes. -/
def BndV : AV → Prop
  | .s l => l.length ≤ 1152921504606846976
  | .sl _ n _ => n ≤ 281474976710656
  | .i k n => inRb k n = true
  | _ => True

theorem inR_b {k : IntKind} {n : Int} (h : inR k n) : inRb k n = true := by
  unfold inR at h
  cases k <;> simp [inRb, IntKind.min, IntKind.max, IntKind.signed, IntKind.bits] at * <;> omega

theorem R.bnd {S : Imm} {ρ : List Nat} {c : AV} {v : Value} (h : R S ρ c v) : BndV c := by
  cases h with
  | s l h => exact h
  | sl0 o => exact Nat.zero_le _
  | sl o ho n cs bk off cap hn hc vs h1 h => exact hc
  | i k n h => exact inR_b h
  | _ => trivial

/-- The arguments' sizes are known. -/
theorem ACalls.bnd {f : FuncId} {args : List AV} {Qr : ARes → AState → Prop} (h : (∀ c ∈ args, BndV c) → ACalls P G f args σ Qr) : ACalls P G f args σ Qr := by
  intro g w vs h1 h2 h3 h4 h5
  refine h (fun c hc => ?_) g w vs h1 h2 h3 h4 h5
  obtain ⟨j, hj⟩ := List.mem_iff_getElem?.1 hc
  have hlt : j < vs.size := by rw [h4]; exact (List.getElem?_eq_some_iff.1 hj).1
  exact (h5 j c vs[j] hj (Array.getElem?_eq_getElem hlt)).1.bnd

end
end Go.Proofs.Ytoofpdmdgofdcaa.E

namespace Go.Proofs.Ytoofpdmdgofdcaa.E
open Go Go.RowKit
set_option linter.unusedVariables false
set_option linter.unusedSimpArgs false

variable {P : Program}

/-- A region that draws its order, by the simplest table. -/
def drawOK (ops : List Oper) : Prop := okD ops (befD ops) (noC ops) = true

theorem drawOK_mk {ops : List Oper} (h : okD ops (befD ops) (noC ops) = true) : drawOK ops := h

/-- The code's structure, unfolded. -/
def aS (P : Program) (rs : Option Nat → Prop) (G : Nat → AV) : Code → (AX → AEnv → AState → Prop) → AEnv → AState → Prop
  | .skip, Q, env, σ => Q .normal env σ
  | .label _, Q, env, σ => Q .normal env σ
  | .exit id, Q, env, σ => Q (.exit id) env σ
  | .ret, Q, env, σ => Q .ret env σ
  | .seq a b, Q, env, σ => aS P rs G a (thenQ (aS P rs G b Q) Q) env σ
  | .block id c, Q, env, σ => aS P rs G c (blockQ id Q) env σ
  | .scope c, Q, env, σ => aS P rs G c (scopeQ Q) env σ
  | .cond x p q, Q, env, σ => condQ (ev G env x) (aS P rs G p Q env σ) (aS P rs G q Q env σ)
  | .region _ ⟨ops⟩ false, Q, env, σ => awOps P G ops Q ops env σ
  | .region _ ⟨ops⟩ true, Q, env, σ => drawOK ops ∧ awD P G ops Q (drawF ops) env σ
  | c, Q, env, σ => AWp P rs G c Q env σ

section
variable {rs : Option Nat → Prop} {G : Nat → AV} {Q : AX → AEnv → AState → Prop} {env : AEnv} {σ : AState}

theorem AWp.go (hm : P.follows .mixedOrders = true) : ∀ {c : Code} {Q : AX → AEnv → AState → Prop} {env : AEnv} {σ : AState}, aS P rs G c Q env σ → AWp P rs G c Q env σ
  | .skip, Q, env, σ, h => AWp.skip h
  | .label _, Q, env, σ, h => AWp.label h
  | .exit id, Q, env, σ, h => AWp.exit h
  | .ret, Q, env, σ, h => AWp.ret h
  | .seq a b, Q, env, σ, h => by
    have h : aS P rs G a (thenQ (aS P rs G b Q) Q) env σ := h
    refine AWp.seq ((AWp.go hm h).mono fun x e s q => ?_)
    cases x with
    | normal => exact AWp.go hm (c := b) q
    | exit id => exact q
    | goto l => exact q
    | ret => exact q
    | panic x => exact q
  | .block id c, Q, env, σ, h => AWp.block (AWp.go hm (c := c) h)
  | .scope c, Q, env, σ, h => AWp.scope (AWp.go hm (c := c) h)
  | .cond x p q, Q, env, σ, h => by
    have h : condQ (ev G env x) (aS P rs G p Q env σ) (aS P rs G q Q env σ) := h
    refine AWp.condK ?_
    generalize ev G env x = c at h ⊢
    cases c with
    | b b =>
      have h : brK b (aS P rs G p Q env σ) (aS P rs G q Q env σ) := h
      exact (show brK b _ _ from ⟨fun e => AWp.go hm (c := p) (h.1 e), fun e => AWp.go hm (c := q) (h.2 e)⟩)
    | _ => exact h.elim
  | .region _ ⟨ops⟩ false, Q, env, σ, h => AWp.text h
  | .region _ ⟨ops⟩ true, Q, env, σ, h => AWp.draw0 hm h.1 h.2
  | .loop c, Q, env, σ, h => h
  | .rangeFunc f ps a b, Q, env, σ, h => h
  | .goto l, Q, env, σ, h => h
  | .refuse s, Q, env, σ, h => h

theorem aS_skip : aS P rs G .skip Q env σ = Q .normal env σ := rfl
theorem aS_label {l : Nat} : aS P rs G (.label l) Q env σ = Q .normal env σ := rfl
theorem aS_exit {i : Nat} : aS P rs G (.exit i) Q env σ = Q (.exit i) env σ := rfl
theorem aS_ret : aS P rs G .ret Q env σ = Q .ret env σ := rfl
theorem aS_seq {a b : Code} : aS P rs G (.seq a b) Q env σ = aS P rs G a (thenQ (aS P rs G b Q) Q) env σ := rfl
theorem aS_block {i : Nat} {c : Code} : aS P rs G (.block i c) Q env σ = aS P rs G c (blockQ i Q) env σ := rfl
theorem aS_scope {c : Code} : aS P rs G (.scope c) Q env σ = aS P rs G c (scopeQ Q) env σ := rfl
theorem aS_cond {x : Operand} {p q : Code} : aS P rs G (.cond x p q) Q env σ = condQ (ev G env x) (aS P rs G p Q env σ) (aS P rs G q Q env σ) := rfl
theorem aS_text {i : Nat} {ops : List Oper} : aS P rs G (.region i ⟨ops⟩ false) Q env σ = awOps P G ops Q ops env σ := rfl
theorem aS_draw {i : Nat} {ops : List Oper} : aS P rs G (.region i ⟨ops⟩ true) Q env σ = (drawOK ops ∧ awD P G ops Q (drawF ops) env σ) := rfl
theorem aS_loop {c : Code} : aS P rs G (.loop c) Q env σ = AWp P rs G (.loop c) Q env σ := rfl
theorem aS_range {f : Operand} {ps : Array Tmp} {a b : Code} : aS P rs G (.rangeFunc f ps a b) Q env σ = AWp P rs G (.rangeFunc f ps a b) Q env σ := rfl

theorem thenQ_n {K : AEnv → AState → Prop} : thenQ K Q .normal env σ = K env σ := rfl
theorem thenQ_e {K : AEnv → AState → Prop} {i : Nat} : thenQ K Q (.exit i) env σ = Q (.exit i) env σ := rfl
theorem thenQ_r {K : AEnv → AState → Prop} : thenQ K Q .ret env σ = Q .ret env σ := rfl
theorem thenQ_p {K : AEnv → AState → Prop} {x : AV} : thenQ K Q (.panic x) env σ = Q (.panic x) env σ := rfl
theorem blockQ_n {i : Nat} : blockQ i Q .normal env σ = Q .normal env σ := rfl
theorem blockQ_e {i j : Nat} : blockQ i Q (.exit j) env σ = if j = i then Q .normal env σ else Q (.exit j) env σ := by
  simp only [blockQ]
  split <;> rfl
theorem blockQ_r {i : Nat} : blockQ i Q .ret env σ = Q .ret env σ := rfl
theorem blockQ_p {i : Nat} {x : AV} : blockQ i Q (.panic x) env σ = Q (.panic x) env σ := rfl
theorem scopeQ_n : scopeQ Q .normal env σ = Q .normal env σ := rfl
theorem scopeQ_e {i : Nat} : scopeQ Q (.exit i) env σ = Q (.exit i) env σ := rfl
theorem scopeQ_r : scopeQ Q .ret env σ = Q .ret env σ := rfl
theorem scopeQ_p {x : AV} : scopeQ Q (.panic x) env σ = Q (.panic x) env σ := rfl

@[congr] theorem aS_congr {c : Code} {env' : AEnv} {σ' : AState} (h : env = env') (h' : σ = σ') : aS P rs G c Q env σ = aS P rs G c Q env' σ' := by rw [h, h']
end

/-! ### A slice that grows in an object of its own -/
section
variable {G : Nat → AV} {env : AEnv} {σ js : AState} {K : AEnv → AState → Prop} {d : Option Tmp} {sz by_ n m cap : Nat} {cs junk ds : List AV}

/-- Appended to a slice over the last object of the state, which is as long as its room: whether there is room in it or not, what is left is of the same form. -/
theorem appM_vec (hcs : cs.length = n * sz) (hds : ds.length = m * sz) (hone : ds.all one = true) (hb : 2 * (n + m) * by_ ≤ 281474976710656) (hnm : n + m ≤ 281474976710656) (hj : (cs ++ junk).length = cap * sz) (hcap : n ≤ cap)
    (h : ∀ js' cap' junk', (cs ++ ds.map AV.pl ++ junk').length = cap' * sz → n + m ≤ cap' → K (aput env d (.sm (σ.length + js'.length) 0 (n + m) cap' sz)) (σ ++ (js' ++ [.cells (cs ++ ds.map AV.pl ++ junk')]))) (hpl : cs.map AV.pl = cs) :
    appM K env (σ ++ (js ++ [.cells (cs ++ junk)])) d sz by_ (.sm (σ.length + js.length) 0 n cap sz) (m, ds) := by
  have hget : (σ ++ (js ++ [AObj.cells (cs ++ junk)]))[σ.length + js.length]? = some (.cells (cs ++ junk)) := by
    rw [List.getElem?_append_right (by omega), List.getElem?_append_right (by omega)]
    simp
  have hlen : cs.length + junk.length = cap * sz := by simpa using hj
  have hz : ∀ a b : Nat, a ≤ b → a * sz ≤ b * sz := fun a b h => Nat.mul_le_mul_right sz h
  simp only [appM, hget]
  refine ⟨⟨trivial, by rw [List.length_append, hlen]; simpa using hz n cap hcap, hds, hone, hb, hnm⟩, fun hle => ⟨by rw [List.length_append, hlen]; simpa using hz _ _ hle, ?_⟩, fun hlt c hc => ?_⟩
  · have key : ∀ (ds cs junk : List AV) (off : Nat), off = cs.length → ds.length ≤ junk.length → setN (cs ++ junk) off ds = cs ++ ds ++ junk.drop ds.length := by
      intro ds
      induction ds with
      | nil => intro cs junk off _ _; simp [setN]
      | cons x r ih =>
        intro cs junk off ho hl
        cases junk with
        | nil => simp at hl
        | cons y t =>
          have e1 : (cs ++ y :: t).set off x = (cs ++ [x]) ++ t := by
            subst ho
            rw [List.set_append_right _ _ (Nat.le_refl _)]
            simp
          simp only [setN, e1]
          rw [ih (cs ++ [x]) t (off + 1) (by simp [ho]) (by simpa using hl)]
          simp
    have hjl : ds.length ≤ junk.length := by
      have h1 := hz _ _ hle
      rw [Nat.add_mul] at h1
      omega
    have h2 := key (ds.map AV.pl) cs junk (0 + n * sz) (by omega) (by simpa using hjl)
    rw [h2]
    have e3 : (σ ++ (js ++ [AObj.cells (cs ++ junk)])).set (σ.length + js.length) (.cells (cs ++ ds.map AV.pl ++ junk.drop (ds.map AV.pl).length)) = σ ++ (js ++ [.cells (cs ++ ds.map AV.pl ++ junk.drop (ds.map AV.pl).length)]) := by
      rw [List.set_append_right _ _ (by omega), List.set_append_right _ _ (by omega)]
      simp
    rw [e3]
    refine h js cap _ ?_ hle
    simp only [List.length_append, List.length_map, List.length_drop]
    omega
  · have e1 : List.take (n * sz) (List.drop 0 (cs ++ junk)) = cs := by
      rw [List.drop_zero]
      exact List.take_left' hcs
    have e2 := h (js ++ [.cells (cs ++ junk)]) c (List.replicate ((c - (n + m)) * sz) .u) (by
      simp only [List.length_append, List.length_map, List.length_replicate]
      rw [hcs, hds, ← Nat.add_mul, ← Nat.add_mul]
      congr 1
      omega) hc
    rw [e1, hpl]
    simpa [Nat.add_assoc] using e2

theorem appM_vec0 (hm : 0 < m) (hds : ds.length = m * sz) (hone : ds.all one = true) (hb : 2 * m * by_ ≤ 281474976710656) (hnm : m ≤ 281474976710656)
    (h : ∀ cap' junk', (ds.map AV.pl ++ junk').length = cap' * sz → m ≤ cap' → K (aput env d (.sm (σ.length + js.length) 0 m cap' sz)) (σ ++ (js ++ [.cells (ds.map AV.pl ++ junk')]))) :
    appM K env (σ ++ js) d sz by_ (.sl .nil 0 []) (m, ds) := by
  simp only [appM]
  refine ⟨⟨hds, hone, hb, hnm⟩, fun h0 => by omega, fun _ c hc => ?_⟩
  have e2 := h c (List.replicate ((c - m) * sz) .u) (by
      simp only [List.length_append, List.length_map, List.length_replicate]
      rw [hds, ← Nat.add_mul]
      congr 1
      omega) hc
  simpa using e2
end

theorem pl_u  : AV.pl (.u) = .u := rfl
theorem pl_b (x : Bool) : AV.pl (.b x) = .b x := rfl
theorem pl_i (k : IntKind) (n : Int) : AV.pl (.i k n) = .i k n := rfl
theorem pl_s (l : List UInt8) : AV.pl (.s l) = .s l := rfl
theorem pl_p0  : AV.pl (.nilp) = .nilp := rfl
theorem pl_f0  : AV.pl (.nilfn) = .nilfn := rfl
theorem pl_i0  : AV.pl (.nilif) = .nilif := rfl
theorem pl_m0  : AV.pl (.nilmap) = .nilmap := rfl
theorem pl_sm (id off n cap z : Nat) : AV.pl (.sm id off n cap z) = .sm id off n cap z := rfl
theorem pl_pi (l : List AV) (k : Nat) : AV.pl (.pi l k) = .pi l k := rfl
theorem pl_pm (id off : Nat) : AV.pl (.pm id off) = .pm id off := rfl
theorem pl_mp (id : Nat) : AV.pl (.mp id) = .mp id := rfl
theorem pl_yl (id : Nat) : AV.pl (.yl id) = .yl id := rfl
theorem pl_fn (f : FuncId) (l : List AV) : AV.pl (.fn f l) = .fn f l := rfl
theorem pl_if (t : TypeId) (x : AV) : AV.pl (.ifc t x) = .ifc t x := rfl
theorem pl_t (l : List AV) : AV.pl (.tup l) = .u := rfl
theorem ar_u  : AV.ar (.u) = .u := rfl
theorem ar_b (x : Bool) : AV.ar (.b x) = .b x := rfl
theorem ar_i (k : IntKind) (n : Int) : AV.ar (.i k n) = .i k n := rfl
theorem ar_s (l : List UInt8) : AV.ar (.s l) = .s l := rfl
theorem ar_p0  : AV.ar (.nilp) = .nilp := rfl
theorem ar_f0  : AV.ar (.nilfn) = .nilfn := rfl
theorem ar_i0  : AV.ar (.nilif) = .nilif := rfl
theorem ar_m0  : AV.ar (.nilmap) = .nilmap := rfl
theorem ar_sm (id off n cap z : Nat) : AV.ar (.sm id off n cap z) = .sm id off n cap z := rfl
theorem ar_pi (l : List AV) (k : Nat) : AV.ar (.pi l k) = .pi l k := rfl
theorem ar_pm (id off : Nat) : AV.ar (.pm id off) = .pm id off := rfl
theorem ar_mp (id : Nat) : AV.ar (.mp id) = .mp id := rfl
theorem ar_yl (id : Nat) : AV.ar (.yl id) = .yl id := rfl
theorem ar_fn (f : FuncId) (l : List AV) : AV.ar (.fn f l) = .fn f l := rfl
theorem ar_if (t : TypeId) (x : AV) : AV.ar (.ifc t x) = .ifc t x := rfl
theorem ar_t (l : List AV) : AV.ar (.tup l) = .u := rfl
theorem st_u  : AV.st (.u) = .u := rfl
theorem st_b (x : Bool) : AV.st (.b x) = .b x := rfl
theorem st_i (k : IntKind) (n : Int) : AV.st (.i k n) = .i k n := rfl
theorem st_s (l : List UInt8) : AV.st (.s l) = .s l := rfl
theorem st_p0  : AV.st (.nilp) = .nilp := rfl
theorem st_f0  : AV.st (.nilfn) = .nilfn := rfl
theorem st_i0  : AV.st (.nilif) = .nilif := rfl
theorem st_m0  : AV.st (.nilmap) = .nilmap := rfl
theorem st_sm (id off n cap z : Nat) : AV.st (.sm id off n cap z) = .sm id off n cap z := rfl
theorem st_pi (l : List AV) (k : Nat) : AV.st (.pi l k) = .pi l k := rfl
theorem st_pm (id off : Nat) : AV.st (.pm id off) = .pm id off := rfl
theorem st_mp (id : Nat) : AV.st (.mp id) = .mp id := rfl
theorem st_yl (id : Nat) : AV.st (.yl id) = .yl id := rfl
theorem st_fn (f : FuncId) (l : List AV) : AV.st (.fn f l) = .fn f l := rfl
theorem st_if (t : TypeId) (x : AV) : AV.st (.ifc t x) = .ifc t x := rfl
theorem st_t (l : List AV) : AV.st (.tup l) = .u := rfl
theorem nt_u  : AV.nt (.u) = .u := rfl
theorem nt_b (x : Bool) : AV.nt (.b x) = .b x := rfl
theorem nt_i (k : IntKind) (n : Int) : AV.nt (.i k n) = .i k n := rfl
theorem nt_s (l : List UInt8) : AV.nt (.s l) = .s l := rfl
theorem nt_p0  : AV.nt (.nilp) = .nilp := rfl
theorem nt_f0  : AV.nt (.nilfn) = .nilfn := rfl
theorem nt_i0  : AV.nt (.nilif) = .nilif := rfl
theorem nt_m0  : AV.nt (.nilmap) = .nilmap := rfl
theorem nt_sm (id off n cap z : Nat) : AV.nt (.sm id off n cap z) = .sm id off n cap z := rfl
theorem nt_pi (l : List AV) (k : Nat) : AV.nt (.pi l k) = .pi l k := rfl
theorem nt_pm (id off : Nat) : AV.nt (.pm id off) = .pm id off := rfl
theorem nt_mp (id : Nat) : AV.nt (.mp id) = .mp id := rfl
theorem nt_yl (id : Nat) : AV.nt (.yl id) = .yl id := rfl
theorem nt_fn (f : FuncId) (l : List AV) : AV.nt (.fn f l) = .fn f l := rfl
theorem nt_if (t : TypeId) (x : AV) : AV.nt (.ifc t x) = .ifc t x := rfl
theorem nt_t (l : List AV) : AV.nt (.tup l) = .u := rfl
theorem pl_a (l : List AV) : AV.pl (.agg l) = .agg l := rfl
theorem pl_sl (o : Ow) (n : Nat) (l : List AV) : AV.pl (.sl o n l) = .sl .no n l := rfl
theorem ar_a (l : List AV) : AV.ar (.agg l) = .agg (l.map AV.pl) := rfl
theorem ar_nil (n : Nat) (l : List AV) : AV.ar (.sl .nil n l) = .sl .nil n l := rfl
theorem st_nil (n : Nat) (l : List AV) : AV.st (.sl .nil n l) = .sl .nil n l := rfl
theorem ar_no (n : Nat) (l : List AV) : AV.ar (.sl .no n l) = .sl .no n l := rfl
theorem st_no (n : Nat) (l : List AV) : AV.st (.sl .no n l) = .sl .no n l := rfl
theorem ar_y (z n : Nat) (l : List AV) : AV.ar (.sl (.yes z) n l) = .sl .no n l := rfl
theorem st_y (z n : Nat) (l : List AV) : AV.st (.sl (.yes z) n l) = .sl .no n l := rfl
theorem st_a (l : List AV) : AV.st (.agg l) = .agg l := rfl
theorem nt_a (l : List AV) : AV.nt (.agg l) = .agg l := rfl
theorem nt_sl (o : Ow) (n : Nat) (l : List AV) : AV.nt (.sl o n l) = .sl o n l := rfl
attribute [go_sem] pl_u pl_b pl_i pl_s pl_p0 pl_f0 pl_i0 pl_m0 pl_sm pl_pi pl_pm pl_mp pl_yl pl_fn pl_if pl_t ar_u ar_b ar_i ar_s ar_p0 ar_f0 ar_i0 ar_m0 ar_sm ar_pi ar_pm ar_mp ar_yl ar_fn ar_if ar_t st_u st_b st_i st_s st_p0 st_f0 st_i0 st_m0 st_sm st_pi st_pm st_mp st_yl st_fn st_if st_t nt_u nt_b nt_i nt_s nt_p0 nt_f0 nt_i0 nt_m0 nt_sm nt_pi nt_pm nt_mp nt_yl nt_fn nt_if nt_t pl_a pl_sl ar_a ar_nil st_nil ar_no st_no ar_y st_y st_a nt_a nt_sl
theorem slOw_nil : slOw .nil = .nil := rfl
theorem slOw_no : slOw .no = .no := rfl
theorem slOw_y (z : Nat) : slOw (.yes z) = .no := rfl
attribute [go_sem] slOw_nil slOw_no slOw_y aun ev_func aaggEq eqFA andK List.toList_toArray aloadTake takeK abuildSlice slK azeros anil abox aextract afold amin2 amax2 aslice aslice2 bnd amakeIf awOps_nil awD_nil gval aop aopV boxV storeV extractV acallV putK Kc isCallF acallD aargs atake apick brK_true brK_false aput_none aput_some ev_const cst_bool ev_tmp abuild aggT optK_some afill aggK2 Kv plK KvS aggK astore abin aint astr aload readC readN aidx aoff afieldAddr afield apart aindex acall alenB feeds feeds1 isTmp cellsOf known1 places one one2 setN setPl isK notK aeq eqT st_get st_get0 st_set st_set0 getD_zero getD_succ List.getD_cons_zero List.getD_cons_succ List.getElem?_cons_zero List.getElem?_cons_succ List.set_cons_zero List.set_cons_succ List.length_cons List.length_nil List.map List.all List.any_cons List.any_nil List.cons_append List.nil_append List.append_assoc Nat.zero_add Nat.add_zero Nat.le_refl Bool.and_true Bool.true_and Bool.and_self Bool.or_false Bool.false_or Bool.or_true Bool.true_or Bool.and_false Bool.false_and Bool.not_true Bool.not_false true_and and_true if_true if_false ite_true ite_false ne_eq not_false_eq_true Bool.false_eq_true beq_self_eq_true bne_self_eq_false decide_true decide_false Option.some.injEq Option.getD_some Option.map_some Option.map_none Function.comp_apply Nat.one_ne_zero Nat.succ_ne_zero List.length_append List.getElem?_toArray brK_eqF brK_eqT Nat.mul_one Int.toNat_natCast
attribute [go_sem] frz0 E.bodyZ bodyQ aresults left0 retV frz clean cleanL List.take_left List.take_left' List.take_length List.append_nil Nat.lt_irrefl add_lt_self condQ_b aS_skip aS_label aS_exit aS_ret aS_seq aS_block aS_scope aS_text aS_loop aS_range thenQ_n thenQ_e thenQ_r thenQ_p blockQ_n blockQ_e blockQ_r blockQ_p scopeQ_n scopeQ_e scopeQ_r scopeQ_p aS_cond drawF aS_draw abytes acnv

end Go.Proofs.Ytoofpdmdgofdcaa.E

namespace Go.Proofs.Ytoofpdmdgofdcaa.E
open Go Go.RowKit
set_option linter.unusedVariables false
set_option linter.unusedSimpArgs false

variable {P : Program} {G : Nat → AV} {Q : AX → AEnv → AState → Prop} {env : AEnv} {σ : AState} {rs : Option Nat → Prop}

/-- A guard, looked up; what follows is left alone. -/
def gK (b : Option Bool) (A B : Prop) : Prop :=
  match b with
  | some b => brK b A B
  | none => False
theorem gK_some {b : Bool} {A B : Prop} : gK (some b) A B = brK b A B := rfl

def gLook (c : Option AV) (want : Bool) : Option Bool :=
  match c with
  | some (.b x) => some (x == want)
  | some (.tup []) => some false
  | _ => none
theorem gLook_b {x want : Bool} : gLook (some (.b x)) want = some (x == want) := rfl
theorem gLook_t {want : Bool} : gLook (some (.tup [])) want = some false := rfl

theorem brK_T {b : Bool} {A B : Prop} (h : b = true) (hA : A) : brK b A B := ⟨fun _ => hA, fun e => by rw [h] at e; cases e⟩
theorem brK_F {b : Bool} {A B : Prop} (h : b = false) (hB : B) : brK b A B := ⟨fun e => by (rw [h] at e; cases e), fun _ => hB⟩
theorem brK_not {b : Bool} {A B : Prop} : brK (!b) A B = brK b B A := by cases b <;> simp [brK]

section text
variable {ops rest : List Oper} {x : Operand} {d : Nat} {t ty : TypeId} {p : String} {a : Array Edge} {op : Op} {od : Option Tmp}

theorem awOps_move (hf : feeds rest (some d) = false) (h : ∀ (K : AEnv → AState → Prop) (Q' : Prop), K = awOps P G ops Q rest → Q' = True → K (env.set d (AV.pn (ev G env x))) σ) :
    awOps P G ops Q ({ dst := some d, op := .move x, type := t, pos := p, after := a, guard := none } :: rest) env σ := by
  refine awOps_step ?_
  show brK true (aop P G rest _ env σ (awOps P G ops Q rest) Q) _
  simp only [brK_true, aop, hf, Bool.false_eq_true, if_false]
  exact h _ _ rfl rfl

theorem awOps_load (hf : feeds rest (some d) = false) (h : ∀ (K : AEnv → AState → Prop) (Q' : Prop), K = awOps P G ops Q rest → Q' = True → aload P σ ty (ev G env x) (Kv K env σ (some d))) :
    awOps P G ops Q ({ dst := some d, op := .load ty x, type := t, pos := p, after := a, guard := none } :: rest) env σ := by
  refine awOps_step ?_
  show brK true (aop P G rest _ env σ (awOps P G ops Q rest) Q) _
  simp only [brK_true, aop, hf, Bool.false_eq_true, if_false]
  exact h _ _ rfl rfl

/-- An operation that looks not at what follows. -/
def lone (o : Op) : Bool :=
  match o with
  | .move _ | .load _ _ => false
  | _ => true

theorem awOps_one (ho : lone op = true) (h : ∀ (K : AEnv → AState → Prop) (Q' : AX → AEnv → AState → Prop), K = awOps P G ops Q rest → Q' = Q → aop P G [] { dst := od, op := op, type := t, pos := p, after := a, guard := none } env σ K Q') :
    awOps P G ops Q ({ dst := od, op := op, type := t, pos := p, after := a, guard := none } :: rest) env σ := by
  refine awOps_step ?_
  show brK true (aop P G rest _ env σ (awOps P G ops Q rest) Q) _
  rw [brK_true]
  have h := h _ _ rfl rfl
  cases op <;> first | exact h | cases ho

/-- One that feeds an append. -/
theorem awOps_feed (h : ∀ (K : AEnv → AState → Prop) (Q' : AX → AEnv → AState → Prop), K = awOps P G ops Q rest → Q' = Q → aop P G rest { dst := od, op := op, type := t, pos := p, after := a, guard := none } env σ K Q') :
    awOps P G ops Q ({ dst := od, op := op, type := t, pos := p, after := a, guard := none } :: rest) env σ := by
  refine awOps_step ?_
  show brK true (aop P G rest _ env σ (awOps P G ops Q rest) Q) _
  rw [brK_true]
  exact h _ _ rfl rfl

theorem gval_look {o : Oper} {j tj : Nat} {want : Bool} (hg : o.guard = some (j, want)) (ht : (ops[j]?).bind (·.dst) = some tj) : gval ops env o = gLook env[tj]? want := by
  unfold gval
  rw [hg]
  cases h : ops[j]? with
  | none => rw [h] at ht; cases ht
  | some oj =>
    rw [h] at ht
    have ht : oj.dst = some tj := ht
    simp only [h, ht]
    generalize env[tj]? = e
    cases e with
    | none => rfl
    | some c =>
      cases c with
      | tup vs => cases vs <;> rfl
      | _ => rfl

/-- A mark. -/
def AG (x : Prop) : Prop := x
theorem awOps_g {j : Nat} {want : Bool} (h : AG (awOps P G ops Q ({ dst := od, op := op, type := t, pos := p, after := a, guard := some (j, want) } :: rest) env σ)) : awOps P G ops Q ({ dst := od, op := op, type := t, pos := p, after := a, guard := some (j, want) } :: rest) env σ := h

theorem awOps_guard {j tj : Nat} {want : Bool} (ht : (ops[j]?).bind (·.dst) = some tj)
    (h : ∀ A B : Prop, A = awOps P G ops Q ({ dst := od, op := op, type := t, pos := p, after := a, guard := none } :: rest) env σ → B = awOps P G ops Q rest (aput env od (.tup [])) σ → gK (gLook env[tj]? want) A B) :
    AG (awOps P G ops Q ({ dst := od, op := op, type := t, pos := p, after := a, guard := some (j, want) } :: rest) env σ) := by
  show awOps P G ops Q _ env σ
  refine awOps_step ?_
  rw [gval_look rfl ht]
  have h := h _ _ rfl rfl
  have e : awOps P G ops Q ({ dst := od, op := op, type := t, pos := p, after := a, guard := none } :: rest) env σ = aop P G rest { dst := od, op := op, type := t, pos := p, after := a, guard := some (j, want) } env σ (awOps P G ops Q rest) Q := by
    rw [awOps_cons]
    show brK true _ _ = _
    rw [brK_true]
    unfold aop
    rfl
  rw [e] at h
  exact h

theorem awOps_end (h : Q .normal env σ) : awOps P G ops Q [] env σ := h
end text

/-- A region that draws its order, its operations in the text's order. -/
def awT (P : Program) (G : Nat → AV) (ops : List Oper) (Q : AX → AEnv → AState → Prop) (l : List Oper) (env : AEnv) (σ : AState) : Prop := awD P G ops Q (drawF l) env σ

section draw
variable {ops rest : List Oper} {t : TypeId} {p : String} {a : Array Edge} {op : Op} {od : Option Tmp}

theorem awT_one (hc : isCallF op = false) (h : ∀ (K : AEnv → AState → Prop) (Q' : Prop), K = awT P G ops Q rest → Q' = True → aopV P G { dst := od, op := op, type := t, pos := p, after := a, guard := none } env σ (putK K env od)) :
    awT P G ops Q ({ dst := od, op := op, type := t, pos := p, after := a, guard := none } :: rest) env σ := by
  refine awD_step (rest := drawF rest) ?_
  show brK true (if isCallF op then _ else _) _
  rw [brK_true, hc]
  exact h _ _ rfl rfl

theorem awT_call (hc : isCallF op = true) (h : ∀ (K : AEnv → AState → Prop) (Q' : Prop), K = awT P G ops Q rest → Q' = True → acallD P G false { dst := od, op := op, type := t, pos := p, after := a, guard := none } env σ (putK K env od)) :
    awT P G ops Q ({ dst := od, op := op, type := t, pos := p, after := a, guard := none } :: rest) env σ := by
  refine awD_step (rest := drawF rest) ?_
  show brK true (if isCallF op then _ else _) _
  rw [brK_true, hc]
  exact h _ _ rfl rfl

theorem awT_g {j : Nat} {want : Bool} (h : AG (awT P G ops Q ({ dst := od, op := op, type := t, pos := p, after := a, guard := some (j, want) } :: rest) env σ)) : awT P G ops Q ({ dst := od, op := op, type := t, pos := p, after := a, guard := some (j, want) } :: rest) env σ := h

theorem awT_guard {j tj : Nat} {want : Bool} (ht : (ops[j]?).bind (·.dst) = some tj)
    (h : ∀ A B : Prop, A = awT P G ops Q ({ dst := od, op := op, type := t, pos := p, after := a, guard := none } :: rest) env σ → B = awT P G ops Q rest (aput env od (.tup [])) σ → gK (gLook env[tj]? want) A B) :
    AG (awT P G ops Q ({ dst := od, op := op, type := t, pos := p, after := a, guard := some (j, want) } :: rest) env σ) := by
  show awT P G ops Q _ env σ
  refine awD_step (rest := drawF rest) ?_
  rw [gval_look rfl ht]
  have h := h _ _ rfl rfl
  have e : awT P G ops Q ({ dst := od, op := op, type := t, pos := p, after := a, guard := none } :: rest) env σ = (if isCallF op then acallD P G false { dst := od, op := op, type := t, pos := p, after := a, guard := some (j, want) } env σ (putK (awT P G ops Q rest) env od) else aopV P G { dst := od, op := op, type := t, pos := p, after := a, guard := some (j, want) } env σ (putK (awT P G ops Q rest) env od)) := by
    show brK true (if isCallF op then _ else _) _ = _
    rw [brK_true]
    rfl
  rw [e] at h
  exact h

theorem awT_end (h : Q .normal env σ) : awT P G ops Q [] env σ := h

theorem AWp.drawT {id : Nat} {ops : List Oper} (hm : P.follows .mixedOrders = true) (hok : okD ops (befD ops) (noC ops) = true) (h : awT P G ops Q ops env σ) : AWp P rs G (.region id ⟨ops⟩ true) Q env σ := AWp.draw0 hm hok h
end draw

theorem AWp.condH {x : Operand} {p q : Code} (h : ∀ A B : Prop, A = AWp P rs G p Q env σ → B = AWp P rs G q Q env σ → condQ (ev G env x) A B) : AWp P rs G (.cond x p q) Q env σ := AWp.condK (h _ _ rfl rfl)

/-! ### Where a piece of code ends -/
section ends
variable {K : AEnv → AState → Prop} {i j : Nat} {x : AV} {fn : Func} {σ0 : AState} {Qr : ARes → AState → Prop}
theorem nThen (h : K env σ) : thenQ K Q .normal env σ := h
theorem eThen (h : Q (.exit i) env σ) : thenQ K Q (.exit i) env σ := h
theorem rThen (h : Q .ret env σ) : thenQ K Q .ret env σ := h
theorem pThen (h : Q (.panic x) env σ) : thenQ K Q (.panic x) env σ := h
theorem nBlock (h : Q .normal env σ) : blockQ i Q .normal env σ := h
theorem eBlock (h : Q .normal env σ) : blockQ i Q (.exit i) env σ := by simp only [blockQ, if_true]; exact h
theorem fBlock (hne : j ≠ i) (h : Q (.exit j) env σ) : blockQ i Q (.exit j) env σ := by simp only [blockQ, hne, if_false]; exact h
theorem rBlock (h : Q .ret env σ) : blockQ i Q .ret env σ := h
theorem pBlock (h : Q (.panic x) env σ) : blockQ i Q (.panic x) env σ := h
theorem nScope (h : Q .normal env σ) : scopeQ Q .normal env σ := h
theorem eScope (h : Q (.exit i) env σ) : scopeQ Q (.exit i) env σ := h
theorem rScope (h : Q .ret env σ) : scopeQ Q .ret env σ := h
theorem pScope (h : Q (.panic x) env σ) : scopeQ Q (.panic x) env σ := h
theorem rBodyZ (h : σ.take σ0.length = σ0 ∧ aresults P env σ fn.results.toList (left0 σ0.length σ σ0 Qr)) : E.bodyZ P fn σ0 Qr .ret env σ := h
theorem nBodyZ (h : σ.take σ0.length = σ0 ∧ aresults P env σ fn.results.toList (left0 σ0.length σ σ0 Qr)) : E.bodyZ P fn σ0 Qr .normal env σ := h
theorem rBodyQ (h : aresults P env σ fn.results.toList fun cs => Qr (.ret (retV cs)) σ) : bodyQ P fn Qr .ret env σ := h
theorem nBodyQ (h : aresults P env σ fn.results.toList fun cs => Qr (.ret (retV cs)) σ) : bodyQ P fn Qr .normal env σ := h
end ends

theorem wrapS {k : Nat} (h : k < 4611686018427387904) : IntKind.i64.wrap ((k : Int) + 1) = ((k + 1 : Nat) : Int) := by rw [wrap_i64 (by omega) (by omega)]; rfl

theorem st_take {α : Type} (σ l : List α) (k : Nat) : (σ ++ l).take (σ.length + k) = σ ++ l.take k := List.take_length_add_append k

theorem pn_u  : AV.pn (.u) = .u := rfl
theorem pn_b (x : Bool) : AV.pn (.b x) = .b x := rfl
theorem pn_i (k : IntKind) (n : Int) : AV.pn (.i k n) = .i k n := rfl
theorem pn_s (l : List UInt8) : AV.pn (.s l) = .s l := rfl
theorem pn_p0  : AV.pn (.nilp) = .nilp := rfl
theorem pn_f0  : AV.pn (.nilfn) = .nilfn := rfl
theorem pn_i0  : AV.pn (.nilif) = .nilif := rfl
theorem pn_m0  : AV.pn (.nilmap) = .nilmap := rfl
theorem pn_a (l : List AV) : AV.pn (.agg l) = .agg l := rfl
theorem pn_n (n : Nat) (l : List AV) : AV.pn (.sl .nil n l) = .sl .nil n l := rfl
theorem pn_sm (id off n cap z : Nat) : AV.pn (.sm id off n cap z) = .sm id off n cap z := rfl
theorem pn_pi (l : List AV) (k : Nat) : AV.pn (.pi l k) = .pi l k := rfl
theorem pn_pm (id off : Nat) : AV.pn (.pm id off) = .pm id off := rfl
theorem pn_mp (id : Nat) : AV.pn (.mp id) = .mp id := rfl
theorem pn_yl (id : Nat) : AV.pn (.yl id) = .yl id := rfl
theorem pn_fn (f : FuncId) (l : List AV) : AV.pn (.fn f l) = .fn f l := rfl
theorem pn_if (t : TypeId) (x : AV) : AV.pn (.ifc t x) = .ifc t x := rfl
theorem pn_no (n : Nat) (l : List AV) : AV.pn (.sl .no n l) = .sl .no n l := rfl
theorem pn_y (z n : Nat) (l : List AV) : AV.pn (.sl (.yes z) n l) = .sl .no n l := rfl
theorem pn_t (l : List AV) : AV.pn (.tup l) = .tup (l.map AV.pl) := rfl
attribute [go_sem] pn_t pn_u pn_b pn_i pn_s pn_p0 pn_f0 pn_i0 pn_m0 pn_a pn_n pn_sm pn_pi pn_pm pn_mp pn_yl pn_fn pn_if pn_no pn_y st_take List.take_succ_cons List.take_zero List.replicate mkE_def List.foldl Weak W1 true_or or_true cst_int inRb gK_some gLook_b gLook_t brK_not

end Go.Proofs.Ytoofpdmdgofdcaa.E

namespace Go.Proofs.Ytoofpdmdgofdcaa.E
open Go Go.RowKit
set_option linter.unusedVariables false
set_option linter.unusedSimpArgs false

variable {P : Program}

/-- No room of its own. -/
def noOwn : AV → Bool
  | .sl (.yes _) _ _ | .tup _ => false
  | _ => true
theorem noOwn_pl {c : AV} (h : noOwn c = true) : Pl c := by
  refine pl_mk (fun z n cs e => ?_) (fun cs e => ?_) <;> subst e <;> cases h

mutual
/-- A value that names no memory, and is no slice. -/
def bare : AV → Bool
  | .b _ | .i _ _ | .s _ | .nilp | .nilfn | .nilif | .nilmap => true
  | .agg cs => bareL cs
  | .tup cs => bareL cs
  | .ifc _ x => bare x
  | _ => false
def bareL : List AV → Bool
  | [] => true
  | c :: cs => bare c && bareL cs
end
theorem bareL_iff : ∀ {cs : List AV}, bareL cs = true → ∀ (j : Nat) (c : AV), cs[j]? = some c → bare c = true
  | [], _, j, c, hc => by simp at hc
  | a :: cs, h, 0, c, hc => by simp only [bareL, Bool.and_eq_true] at h; simp at hc; subst hc; exact h.1
  | a :: cs, h, j + 1, c, hc => by simp only [bareL, Bool.and_eq_true] at h; exact bareL_iff h.2 j c (by simpa using hc)

theorem R.bare {S S' : Imm} {ρ ρ' : List Nat} {c : AV} {v : Value} (h : R S ρ c v) (hf : E.bare c = true) : R S' ρ' c v := by
  induction h with
  | b x => exact .b x
  | i k n h => exact .i k n h
  | s l h => exact .s l h
  | nilp => exact .nilp
  | nilfn => exact .nilfn
  | nilif => exact .nilif
  | nilmap => exact .nilmap
  | agg cs vs hl _ ih => exact .agg cs vs hl fun j c v hc hv => ih j c v hc hv (bareL_iff hf j c hc)
  | tup cs vs hl _ ih => exact .tup cs vs hl fun j c v hc hv => ih j c v hc hv (bareL_iff hf j c hc)
  | ifc t x v _ ih => exact .ifc t x v (ih hf)
  | val x => cases hf
  | u v => cases hf
  | sl0 o => cases hf
  | sl o ho n cs bk off cap hn hc vs h1 _ ih => cases hf
  | sm id off n cap z bk hb hn hc => cases hf
  | pi cs k bk off vs h1 _ ih => cases hf
  | pm id off bk hb => cases hf
  | mp id bk hb => cases hf
  | yl id bk hb => cases hf
  | fn f cs vs hl _ ih => cases hf

theorem bare_own {c : AV} {v : Value} (g : Gh) (i : Nat) (h : bare c = true) : TopOwn g i c v := by
  refine ⟨?_, fun cs vs e e' k c' v' hc hv => ?_⟩
  · unfold OwnOK
    split
    · cases h
    · trivial
  · subst e
    have := bareL_iff h k c' hc
    unfold OwnOK
    split
    · cases this
    · trivial

/-- Arguments lent: the call sees what they hold, as memory that does not change; nothing of the state is its own. -/
theorem ACalls.lent {f : FuncId} {args : List AV} {c : AV} {σ : AState} (h : ACalls P G0 f (args.map (frz 0 σ)) [] (retIs c [])) (hb : bare c = true) (hcl : cleanL 0 (args.map (frz 0 σ)) = true) (hno : (args.map (frz 0 σ)).all noOwn = true) :
    ACalls P G0 f args σ (retIs c σ) := by
  intro g w vs hs hO hG hl hR
  have hs' : Sim { S := frzS g w 0, ρ := [], ow := fun _ => none } [] w := by
    refine ⟨fun bk o v hv => ?_, rfl, fun i j bk hi => by simp at hi, fun id o ho => by simp at ho, fun bk s h e hh => by cases hh⟩
    rcases frzS_cases (g := g) (w := w) (n := 0) bk o with ⟨id, h1, h2, h3⟩ | ⟨h1, h2⟩
    · have hv : frzS g w 0 bk o = some v := hv
      rw [← h3]; exact hv
    · have hv : frzS g w 0 bk o = some v := hv
      rw [h2] at hv
      exact hs.imm bk o v hv
  have key := h { S := frzS g w 0, ρ := [], ow := fun _ => none } w vs hs' (fun bk s h e => by cases e) (G0_ok _) (by rw [hl, List.length_map]) (fun j c' v hc hv => by
    rw [List.getElem?_map, Option.map_eq_some_iff] at hc
    obtain ⟨c0, hc0, rfl⟩ := hc
    have h1 := ((hR j c0 v hc0 hv).1.frz hs 0)
    have h2 := cleanL_iff.1 hcl j (frz 0 σ c0) (by rw [List.getElem?_map, hc0]; rfl)
    refine ⟨h1.take h2 (fun id bk hid => by omega), ?_⟩
    have h3 := List.all_eq_true.1 hno (frz 0 σ c0) (List.mem_map.2 ⟨c0, List.mem_of_getElem? hc0, rfl⟩)
    exact noOwn_pl h3 _ j v)
  refine next1_mono (fun e w' hp => ?_) key
  cases e with
  | returned v =>
    obtain ⟨r, σ', g', ⟨hr, hσ⟩, hx, hs2, hr2, ht, hor⟩ := hp
    cases hr
    have hk : ∀ bk, bk < w.heap.size → w'.heap[bk]? = w.heap[bk]? := fun bk hb' => (hx.keep bk hb' (fun id => by simp) rfl).1
    refine ⟨c, σ, g, ⟨rfl, rfl⟩, ⟨hx.os, hx.tape, hx.output, hx.size, fun _ _ _ h => h, fun _ _ h => h, fun bk hb' _ _ => ⟨hk bk hb', fun _ => rfl⟩, fun id _ h => .inr ⟨id, h⟩, fun _ _ h => .inr (by rw [h]; simp)⟩, hs.world hk, hr2.bare hb, bare_own g 0 hb, fun bk s h e => .inl (hO bk s h e)⟩
  | panicked ch =>
    obtain ⟨x, v, σ', g', _, ⟨hr, _⟩, _⟩ := hp
    cases hr
  | outgrown => exact hp.elim

/-- Arguments may bear less. -/
theorem ACalls.plArgs {G : Nat → AV} {f : FuncId} {args : List AV} {σ : AState} {Q : ARes → AState → Prop} (h : ACalls P G f (args.map AV.pl) σ Q) : ACalls P G f args σ Q := fun g w vs h1 h2 h3 h4 h5 =>
  h g w vs h1 h2 h3 (by rw [h4, List.length_map]) fun j c v hc hv => by
    rw [List.getElem?_map, Option.map_eq_some_iff] at hc
    obtain ⟨c0, hc0, rfl⟩ := hc
    exact ⟨(h5 j c0 v hc0 hv).1.pl, topOwn_pl _ _ _ _⟩

theorem appM_new {K : AEnv → AState → Prop} {env : AEnv} {σ : AState} {d : Option Tmp} {sz by_ m : Nat} {ds : List AV} (hm : 0 < m) (hds : ds.length = m * sz) (hone : ds.all one = true) (hb : 2 * m * by_ ≤ 281474976710656) (hnm : m ≤ 281474976710656)
    (h : ∀ cap' junk', (ds.map AV.pl ++ junk').length = cap' * sz → m ≤ cap' → K (aput env d (.sm σ.length 0 m cap' sz)) (σ ++ [.cells (ds.map AV.pl ++ junk')])) : appM K env σ d sz by_ (.sl .nil 0 []) (m, ds) := by
  have := appM_vec0 (K := K) (env := env) (σ := σ) (js := []) (d := d) (by_ := by_) hm hds hone hb hnm (fun c j h1 h2 => by simpa using h c j h1 h2)
  simpa using this

/-! ### Calls in regions that draw their order -/
section
variable {G : Nat → AV} {Q : AX → AEnv → AState → Prop} {env : AEnv} {σ : AState} {rs : Option Nat → Prop}

theorem ACalls.useD {KV : AV → AState → Prop} {f : FuncId} {args : List AV} {c : AV} (h : ACalls P G f args σ (retIs c σ)) (hk : KV c σ) : ∃ r σ', ACalls P G f args σ (callV (eqK r σ')) ∧ KV r σ' :=
  ⟨c, σ, h.mono fun r s ⟨h1, h2⟩ => by subst h1; subst h2; exact ⟨rfl, rfl⟩, hk⟩

theorem ACalls.useU {KV : AV → AState → Prop} {f : FuncId} {args : List AV} {c : AV} (h : ∀ s, ACalls P G f args s (retIs c s)) (hk : KV c σ) : ∃ r, (∀ s, ACalls P G f args s (callV (eqK r s))) ∧ KV r σ :=
  ⟨c, fun s => (h s).mono fun r s' ⟨h1, h2⟩ => by subst h1; subst h2; exact ⟨rfl, rfl⟩, hk⟩

/-- All calls may come before or after any other operation. -/
def allC (ops : List Oper) : List Bool := ops.map fun o => isCallF o.op
def drawU (ops : List Oper) : List (Oper × Bool) := ops.map fun o => (o, isCallF o.op)
theorem zip_allC : ∀ ops : List Oper, ops.zip (allC ops) = drawU ops
  | [] => rfl
  | o :: ops => by
    have := zip_allC ops
    simp only [allC, drawU, List.map_cons, List.zip_cons_cons] at *
    rw [this]
def awU (P : Program) (G : Nat → AV) (ops : List Oper) (Q : AX → AEnv → AState → Prop) (l : List Oper) (env : AEnv) (σ : AState) : Prop := awD P G ops Q (drawU l) env σ

theorem AWp.drawU {id : Nat} {ops : List Oper} (hm : P.follows .mixedOrders = true) (hok : okD ops (befD ops) (allC ops) = true) (h : awU P G ops Q ops env σ) : AWp P rs G (.region id ⟨ops⟩ true) Q env σ :=
  AWp.draw (befD ops) (allC ops) hm hok (by rw [zip_allC]; exact h)

variable {ops rest : List Oper} {t : TypeId} {p : String} {a : Array Edge} {op : Op} {od : Option Tmp}
theorem awU_one (hc : isCallF op = false) (h : ∀ (K : AEnv → AState → Prop) (Q' : Prop), K = awU P G ops Q rest → Q' = True → aopV P G { dst := od, op := op, type := t, pos := p, after := a, guard := none } env σ (putK K env od)) :
    awU P G ops Q ({ dst := od, op := op, type := t, pos := p, after := a, guard := none } :: rest) env σ := by
  refine awD_step (rest := E.drawU rest) ?_
  show brK true (if isCallF op then _ else _) _
  rw [brK_true, hc]
  exact h _ _ rfl rfl
theorem awU_call (hc : isCallF op = true) (h : ∀ (K : AEnv → AState → Prop) (Q' : Prop), K = awU P G ops Q rest → Q' = True → acallD P G true { dst := od, op := op, type := t, pos := p, after := a, guard := none } env σ (putK K env od)) :
    awU P G ops Q ({ dst := od, op := op, type := t, pos := p, after := a, guard := none } :: rest) env σ := by
  refine awD_step (rest := E.drawU rest) ?_
  show brK true (if isCallF op then _ else _) _
  rw [brK_true, hc]
  have h := h _ _ rfl rfl
  simp only [if_true]
  exact h
theorem awU_g {j : Nat} {want : Bool} (h : AG (awU P G ops Q ({ dst := od, op := op, type := t, pos := p, after := a, guard := some (j, want) } :: rest) env σ)) : awU P G ops Q ({ dst := od, op := op, type := t, pos := p, after := a, guard := some (j, want) } :: rest) env σ := h
theorem awU_guard {j tj : Nat} {want : Bool} (ht : (ops[j]?).bind (·.dst) = some tj)
    (h : ∀ A B : Prop, A = awU P G ops Q ({ dst := od, op := op, type := t, pos := p, after := a, guard := none } :: rest) env σ → B = awU P G ops Q rest (aput env od (.tup [])) σ → gK (gLook env[tj]? want) A B) :
    AG (awU P G ops Q ({ dst := od, op := op, type := t, pos := p, after := a, guard := some (j, want) } :: rest) env σ) := by
  show awU P G ops Q _ env σ
  refine awD_step (rest := E.drawU rest) ?_
  rw [gval_look rfl ht]
  have h := h _ _ rfl rfl
  have e : awU P G ops Q ({ dst := od, op := op, type := t, pos := p, after := a, guard := none } :: rest) env σ = (if isCallF op then acallD P G (isCallF op) { dst := od, op := op, type := t, pos := p, after := a, guard := some (j, want) } env σ (putK (awU P G ops Q rest) env od) else aopW P G (isCallF op) { dst := od, op := op, type := t, pos := p, after := a, guard := some (j, want) } env σ (putK (awU P G ops Q rest) env od)) := by
    show brK true (if isCallF op then _ else _) _ = _
    rw [brK_true]
    rfl
  rw [e] at h
  exact h
theorem awU_end (h : Q .normal env σ) : awU P G ops Q [] env σ := h
end

/-! ### Objects that are not written any more -/
/-- As AWp, where the base has no more than n0 objects. -/
def AWpZ (P : Program) (n0 : Nat) (rs : Option Nat → Prop) (G : Nat → AV) (c : Code) (Q : AX → AEnv → AState → Prop) (env : AEnv) (σ : AState) : Prop :=
  ∀ (g0 : Gh) (w0 : World) (D : List Deferred) (r : Option Nat) (n : Nat) (a : Act) (w : World), g0.ρ.length ≤ n0 → rs r → GPl G → GOK G g0 → Inv2 g0 w0 D env σ a w → c.wpIn (FW r) n P (QInvM g0 w0 D Q) a w

section
variable {G : Nat → AV} {Q : AX → AEnv → AState → Prop} {env : AEnv} {σ : AState} {rs : Option Nat → Prop} {n0 : Nat}

theorem AWp.toZ {c : Code} (h : AWp P rs G c Q env σ) : AWpZ P n0 rs G c Q env σ := fun g0 w0 D r n a w _ hr h1 h2 h3 => h.two hr h1 h2 h3

theorem AWpZ.seq {x y : Code} (h : AWpZ P n0 rs G x (thenQ (AWpZ P n0 rs G y Q) Q) env σ) : AWpZ P n0 rs G (.seq x y) Q env σ := fun g0 w0 D r n a w hn hr h1 h2 h3 =>
  wpIn_seq (wpIn_mono (h g0 w0 D r n a w hn hr h1 h2 h3) fun e a' w' q => by
    cases e with
    | normal => obtain ⟨e, s, k1, k2⟩ := q; exact k1 g0 w0 D r n a' w' hn hr h1 h2 k2
    | exit id => exact q
    | goto l => exact q
    | ret => exact q
    | panic ch => exact q
    | outgrown => exact q)

theorem freeze_sim {g : Gh} {w : World} {m : Nat} (hs : Sim g σ w) (hcl : ∀ o ∈ σ.take m, cleanO m o = true) : Sim { S := frzS g w m, ρ := g.ρ.take m, ow := g.ow } (σ.take m) w := by
  have hρ : ∀ (id bk : Nat), id < m → g.ρ[id]? = some bk → (g.ρ.take m)[id]? = some bk := fun id bk hlt h => by rw [List.getElem?_take_of_lt hlt]; exact h
  have hback : ∀ (id : Nat) (x : AObj), (σ.take m)[id]? = some x → id < m ∧ σ[id]? = some x := fun id x h => by
    have hlt : id < m := by
      have := (List.getElem?_eq_some_iff.1 h).1
      simp at this
      omega
    rw [List.getElem?_take_of_lt hlt] at h
    exact ⟨hlt, h⟩
  have hnd : ∀ (id bk : Nat), id < m → g.ρ[id]? = some bk → ∀ o, frzS g w m bk o = none := fun id bk hlt h o => by
    rw [frzS_out (fun id' h1 h2 => by have := hs.inj id id' bk h h2; omega), hs.noS h o]
  refine ⟨fun bk o v h => ?_, by simp [hs.len], fun i j bk h1 h2 => ?_, fun id o ho => ?_, fun bk sl h e hh => ?_⟩
  · rcases frzS_cases (g := g) (w := w) (n := m) bk o with ⟨id, h1, h2, h3⟩ | ⟨h1, h2⟩
    · have h : frzS g w m bk o = some v := h
      rw [← h3]; exact h
    · have h : frzS g w m bk o = some v := h
      rw [h2] at h
      exact hs.imm bk o v h
  · have k1 : (g.ρ.take m)[i]? = some bk := h1
    have k2 : (g.ρ.take m)[j]? = some bk := h2
    have l1 := (List.getElem?_eq_some_iff.1 k1).1
    have l2 := (List.getElem?_eq_some_iff.1 k2).1
    simp at l1 l2
    rw [List.getElem?_take_of_lt (by omega)] at k1 k2
    exact hs.inj i j bk k1 k2
  · obtain ⟨hlt, ho'⟩ := hback id o ho
    have hc := hcl o (List.mem_of_getElem? ho)
    have h1 := hs.obj id o ho'
    cases o with
    | cells cs =>
      obtain ⟨b1, vs, E, fr, m2, m3, m4, m5, m6, m7, m8⟩ := h1
      exact ⟨b1, vs, E, fr, hρ id b1 hlt m2, m3, m4, m5, hnd id b1 hlt m2, m7, fun j c v hcj hv => ⟨((m8 j c v hcj hv).1.mono (fun bk o v h => frzS_mono hs bk o v h) (fun _ _ h => h)).take (cleanL_iff.1 hc j c hcj) hρ, (m8 j c v hcj hv).2⟩⟩
    | map es =>
      obtain ⟨b1, ms, clock, m2, m3, m4, m6, m7, m8⟩ := h1
      refine ⟨b1, ms, clock, hρ id b1 hlt m2, m3, m4, hnd id b1 hlt m2, m7, fun j e m' he hm => ?_⟩
      have hce := List.all_eq_true.1 (show es.all _ = true from hc) e (List.mem_of_getElem? he)
      simp only [Bool.and_eq_true] at hce
      exact ⟨((m8 j e m' he hm).1.mono (fun bk o v h => frzS_mono hs bk o v h) (fun _ _ h => h)).take hce.1 hρ, ((m8 j e m' he hm).2.mono (fun bk o v h => frzS_mono hs bk o v h) (fun _ _ h => h)).take hce.2 hρ⟩
    | loop r es =>
      obtain ⟨b1, m2, m3, m4, m6, m7, m8⟩ := h1
      exact ⟨b1, hρ id b1 hlt m2, m3, m4, hnd id b1 hlt m2, m7, fun j c v hcj hv => ((m8 j c v hcj hv).mono (fun bk o v h => frzS_mono hs bk o v h) (fun _ _ h => h)).take (cleanL_iff.1 hc j c hcj) hρ⟩
    | it itn its es =>
      obtain ⟨b1, itx, m2, m3, m4, m6, m7, m8⟩ := h1
      exact ⟨b1, itx, hρ id b1 hlt m2, m3, m4, hnd id b1 hlt m2, m7, fun j c v hcj hv => ((m8 j c v hcj hv).mono (fun bk o v h => frzS_mono hs bk o v h) (fun _ _ h => h)).take (cleanL_iff.1 hc j c hcj) hρ⟩
  · have hh : g.ow bk = some (sl, h, e) := hh
    obtain ⟨vs, E, fr, k1, k2, k3, k4⟩ := hs.own bk sl h e hh
    refine ⟨vs, E, fr, k1, k2, k3, fun o ho => ?_⟩
    show frzS g w m bk o = none
    rw [frzS_out (fun id _ h3 => ?_)]
    · exact k4 o ho
    · have hlt : id < σ.length := by rw [← hs.len]; exact (List.getElem?_eq_some_iff.1 h3).1
      have h1 : σ[id]? = some σ[id] := List.getElem?_eq_getElem hlt
      have h2 := hs.obj id _ h1
      cases e2 : σ[id] with
      | cells cs =>
        rw [e2] at h2
        obtain ⟨b1, vs', E', fr', m2, m3, m4, m5, m6, m7, m8⟩ := h2
        rw [h3] at m2
        cases m2
        rw [m7] at hh
        cases hh
      | map es =>
        rw [e2] at h2
        obtain ⟨b1, ms, clock, m2, m3, m4, m6, m7, m8⟩ := h2
        rw [h3] at m2
        cases m2
        rw [m7] at hh
        cases hh
      | loop r es =>
        rw [e2] at h2
        obtain ⟨b1, m2, m3, m4, m6, m7, m8⟩ := h2
        rw [h3] at m2
        cases m2
        rw [m7] at hh
        cases hh
      | it itn its es =>
        rw [e2] at h2
        obtain ⟨b1, itx, m2, m3, m4, m6, m7, m8⟩ := h2
        rw [h3] at m2
        cases m2
        rw [m7] at hh
        cases hh

theorem frz_top {g : Gh} {i : Nat} {c : AV} {v : Value} (h : TopOwn g i c v) (n : Nat) (σ : AState) : TopOwn g i (frz n σ c) v := by
  refine ⟨ownOK_frz h.1 n σ, fun cs vs e e' k c' v' hc hv => ?_⟩
  have e2 := frz_tup e
  subst e2
  have e3 : frz n σ (.tup cs) = .tup cs := e
  exact h.2 cs vs rfl e' k c' v' hc hv

/-- The objects from the m-th on are not written any more: what they hold is told by the values that name them. -/
theorem AWpZ.freeze {c : Code} (m : Nat) (hn : n0 ≤ m) (h : AWpZ P n0 rs G0 c Q (env.map (frz m σ)) (σ.take m)) (hcl : ∀ o ∈ σ.take m, cleanO m o = true) (hce : cleanL m (env.map (frz m σ)) = true) : AWpZ P n0 rs G0 c Q env σ := by
  intro g0 w0 D r n a w hl hr h1 h2 ⟨g, ms, k1, k2, k3, k4, k5⟩
  refine h g0 w0 D r n a w hl hr h1 h2 ⟨{ S := frzS g w m, ρ := g.ρ.take m, ow := g.ow }, ms, k1, ⟨fun x hx => ?_, k2.2⟩, ?_, freeze_sim k4 hcl, ?_⟩
  · obtain ⟨b, q1, q2, q3, q4, q5⟩ := k2.1 x hx
    exact ⟨b, q1, q2, q3, fun id e => by
      have e : (g.ρ.take m)[id]? = some b := e
      have l1 := (List.getElem?_eq_some_iff.1 e).1
      simp at l1
      rw [List.getElem?_take_of_lt (by omega)] at e
      exact q4 id e, q5⟩
  · refine ⟨k3.os, k3.tape, k3.output, k3.size, fun bk o v hv => frzS_mono k4 bk o v (k3.S bk o v hv), fun id bk hb => ?_, fun bk hb h3 h4 => ?_, fun id bk e => ?_, k3.newow⟩
    · have hlt : id < m := by have := (List.getElem?_eq_some_iff.1 hb).1; omega
      show (g.ρ.take m)[id]? = some bk
      rw [List.getElem?_take_of_lt hlt]
      exact k3.ρ id bk hb
    · obtain ⟨q1, q2⟩ := k3.keep bk hb h3 h4
      refine ⟨q1, fun o => ?_⟩
      have : frzS g w m bk o = g.S bk o := frzS_out (fun id _ h5 => by
        rcases k3.newρ id bk h5 with h6 | ⟨i0, h6⟩
        · omega
        · exact h3 i0 h6) o
      exact this.trans (q2 o)
    · have e : (g.ρ.take m)[id]? = some bk := e
      have l1 := (List.getElem?_eq_some_iff.1 e).1
      simp at l1
      rw [List.getElem?_take_of_lt (by omega)] at e
      exact k3.newρ id bk e
  · refine ⟨by rw [k5.1, List.length_map], fun i c' v hc hv => ?_⟩
    rw [List.getElem?_map, Option.map_eq_some_iff] at hc
    obtain ⟨c0, hc0, rfl⟩ := hc
    have h3 := k5.2 i c0 v hc0 hv
    have hclean := cleanL_iff.1 hce i (frz m σ c0) (by rw [List.getElem?_map, hc0]; rfl)
    refine ⟨(h3.1.frz k4 m).take hclean fun id bk hlt hb => ?_, ?_⟩
    · show (g.ρ.take m)[id]? = some bk
      rw [List.getElem?_take_of_lt hlt]
      exact hb
    · have := frz_top h3.2 m σ
      exact ⟨this.1, this.2⟩
end

section
variable {G : Nat → AV} {Q : ARes → AState → Prop} {σ : AState}
theorem ACalls.startZ {f : FuncId} {fn : Func} {c : Code} {args : List AV} {rs : Option Nat → Prop} {QX : AX → AEnv → AState → Prop} (hrs : rs none) (hGp : GPl G) (hf : P.funcs[f]? = some fn) (hb : fn.body = some c) (hng : (fn.name == "runtime.NumGoroutine") = false)
    (h : AWpZ P σ.length rs G c QX (args ++ List.replicate (fn.ntmps - args.length) .u) σ)
    (hq : ∀ (g : Gh) (w : World) (e : Exit) (a : Act) (w' : World), Sim g σ w → QInvM g w [] QX e a w' → bodyPostM (FW none) 0 P fn (PostA g w Q) e a w') : ACalls P G f args σ Q := by
  intro g w vs hs ho hG hl hR
  rw [enter_run hf hb hng]
  show Calls P f vs w (PostA g w Q)
  refine (callsIn_wide (n := 0)).1 (callsIn_of_wp_marks hf hb trivial ?_)
  refine wpIn_mono (h g w [] none 0 { tmps := vs ++ Array.replicate (fn.ntmps - vs.size) undef, defers := [] } w (Nat.le_of_eq hs.len) hrs hGp hG (Inv.two ⟨rfl, g, Ext.refl g w, hs, ?_⟩)) fun e a w' q => hq g w e a w' hs q
  refine ⟨by simp [hl], fun i c v hc hv => ?_⟩
  rcases Nat.lt_or_ge i args.length with hlt | hge
  · rw [List.getElem?_append_left hlt] at hc
    rw [Array.getElem?_append_left (by rw [hl]; exact hlt)] at hv
    exact hR i c v hc hv
  · rw [List.getElem?_append_right hge] at hc
    rw [List.getElem?_replicate] at hc
    split at hc
    · cases hc
      exact ⟨.u v, trivial, fun cs vs e => by cases e⟩
    · cases hc

theorem ACalls.bodyF {f : FuncId} {fn : Func} {c : Code} {args : List AV} (hGp : GPl G) (hf : P.funcs[f]? = some fn) (hb : fn.body = some c) (hng : (fn.name == "runtime.NumGoroutine") = false) (hnd : (resT fn.results.toList).Nodup)
    (h : AWpZ P σ.length plainR G c (E.bodyZ P fn σ Q) (args ++ List.replicate (fn.ntmps - args.length) .u) σ) : ACalls P G f args σ Q :=
  ACalls.startZ (rs := plainR) rfl hGp hf hb hng h fun g w e a w' hs0 q => by
    cases e with
    | normal => obtain ⟨env, σ', ⟨k0, k1⟩, k2⟩ := q; exact ret_bodyZ hs0 hnd k0 k1 k2
    | ret => obtain ⟨env, σ', ⟨k0, k1⟩, k2⟩ := q; exact ret_bodyZ hs0 hnd k0 k1 k2
    | panic ch =>
      obtain ⟨x, v, env, σ', g1, ms, rfl, ⟨k0, k1, k1'⟩, k2, km, k3, k4, k5⟩ := q
      show LeavesInM _ _ _ _ _ _ _ _ _
      rw [k2, List.append_nil]
      refine leaves (by simp) (fun w2 hs2 hx2 => ?_) ms w' km k4 k3
      have hx := hx2.trans (Ext.onlyO (g := g1) (w := w2))
      obtain ⟨q1, q2⟩ := drop_new hx hs0 hs2.onlyO k0
      unfold LeavesIn
      refine ⟨x, v, σ, _, rfl, k1', q1, q2, ?_, OnlyO.of g1⟩
      have h6 := k5.mono (S' := frzS { g1 with ow := onlyO g1.ow } w2 σ.length) (fun bk o v h => frzS_mono (g := { g1 with ow := onlyO g1.ow }) (n := σ.length) hs2.onlyO bk o v h) (fun _ _ h => h)
      refine h6.take k1 fun id bk hlt h => ?_
      have h1 : g.ρ[id]? = some (g.ρ[id]'(by rw [hs0.len]; exact hlt)) := List.getElem?_eq_getElem (by rw [hs0.len]; exact hlt)
      rw [k3.ρ id _ h1] at h
      rw [h1, h]
    | exit id => obtain ⟨env, σ', k1, k2⟩ := q; exact k1.elim
    | goto l => obtain ⟨env, σ', k1, k2⟩ := q; exact k1.elim
    | outgrown => exact q.elim
end
end Go.Proofs.Ytoofpdmdgofdcaa.E

namespace Go.Proofs.Ytoofpdmdgofdcaa.E
open Go Go.RowKit
set_option linter.unusedVariables false
set_option linter.unusedSimpArgs false

variable {P : Program}

theorem oper_monoQ {F : Fence} {n : Nat} {o : Oper} {a : Act} {w : World} {K K' : Act → World → Prop} {Q1 Q2 : Exit → Act → World → Prop} (h : ∀ a w, K a w → K' a w) (hp : ∀ ch a w, Q1 (.panic ch) a w → Q2 (.panic ch) a w) (hl : LetsOut Q1 → LetsOut Q2)
    (hh : o.wpIn F n P a w K Q1) : o.wpIn F n P a w K' Q2 := by
  unfold Oper.wpIn at *
  refine ⟨hh.1, ?_⟩
  have hh := hh.2
  generalize (o.semAt F.round a.eval).run P w = r at *
  cases r with
  | ok x w' =>
    cases x <;> simp only [Oper.uponIn] at hh ⊢ <;>
      first
        | exact h _ _ hh
        | exact ⟨hh.1, CallsIn.mono hh.2 (fun e w'' he => by cases e <;> first | exact h _ _ he | exact hp _ _ _ he | exact hl he)⟩
        | exact ⟨hh.1, RowsIn.mono hh.2 (fun _ _ he => h _ _ he)⟩
        | exact ⟨hh.1, RoundIn.mono hh.2 (fun e w'' he => by cases e <;> first | exact h _ _ he | exact hp _ _ _ he | exact hl he)⟩
  | halt x w' => cases x <;> simp only [Oper.uponIn] at hh ⊢ <;> first | exact hp _ _ _ hh | exact hh

/-- The operations from the m-th on come behind all others, one behind the other. -/
def sufOK (ops : List Oper) (m : Nat) : Bool :=
  decide (m ≤ ops.length) && (List.range ops.length).all fun i => match ops[i]? with
    | some o => ((edges o).all fun e => decide (e < i)) &&
      ((List.range ops.length).all fun j => !((befD ops).getD i 0).testBit j || (edges o).any fun e => e == j || ((befD ops).getD e 0).testBit j) &&
      (decide (i < m) || (List.range i).all fun j => ((befD ops).getD i 0).testBit j) &&
      (match o.guard with | some (j, _) => decide (j < i) | none => true)
    | none => true

structure SufOk (ops : List Oper) (m : Nat) : Prop where
  le : m ≤ ops.length
  edge : ∀ (i : Nat) o, ops[i]? = some o → ∀ e ∈ o.after, Region.binds .any e = true → e.on < i
  bef : ∀ (i j : Nat) o, ops[i]? = some o → ((befD ops).getD i 0).testBit j = true → j < ops.length → ∃ e ∈ o.after, Region.binds .any e = true ∧ (e.on = j ∨ ((befD ops).getD e.on 0).testBit j = true)
  seq : ∀ (i j : Nat) o, ops[i]? = some o → m ≤ i → j < i → ((befD ops).getD i 0).testBit j = true
  guard : ∀ (i j : Nat) o want, ops[i]? = some o → o.guard = some (j, want) → j < i

theorem mem_edges {o : Oper} {e : Edge} (h : e ∈ o.after) (hb : Region.binds .any e = true) : e.on ∈ edges o := by
  unfold edges
  exact List.mem_map.2 ⟨e, List.mem_filter.2 ⟨by simpa using h, hb⟩, rfl⟩
theorem of_edges {o : Oper} {k : Nat} (h : k ∈ edges o) : ∃ e ∈ o.after, Region.binds .any e = true ∧ e.on = k := by
  unfold edges at h
  obtain ⟨e, he, rfl⟩ := List.mem_map.1 h
  obtain ⟨h1, h2⟩ := List.mem_filter.1 he
  exact ⟨e, by simpa using h1, h2, rfl⟩

theorem SufOk.of {ops : List Oper} {m : Nat} (h : sufOK ops m = true) : SufOk ops m := by
  unfold sufOK at h
  rw [Bool.and_eq_true, List.all_eq_true] at h
  obtain ⟨hle, h⟩ := h
  have key : ∀ (i : Nat) o, ops[i]? = some o → ((edges o).all fun e => decide (e < i)) = true ∧ ((List.range ops.length).all fun j => !((befD ops).getD i 0).testBit j || (edges o).any fun e => e == j || ((befD ops).getD e 0).testBit j) = true ∧
      (decide (i < m) || (List.range i).all fun j => ((befD ops).getD i 0).testBit j) = true ∧ (match o.guard with | some (j, _) => decide (j < i) | none => true) = true := fun i o ho => by
    have := h i (List.mem_range.2 (List.getElem?_eq_some_iff.1 ho).1)
    rw [ho] at this
    simp only [Bool.and_eq_true] at this
    exact ⟨this.1.1.1, this.1.1.2, this.1.2, this.2⟩
  refine ⟨by simpa using hle, fun i o ho e he hb => ?_, fun i j o ho hj hlt => ?_, fun i j o ho hm hj => ?_, fun i j o want ho hg => ?_⟩
  · have := List.all_eq_true.1 (key i o ho).1 e.on (mem_edges he hb)
    simpa using this
  · have := List.all_eq_true.1 (key i o ho).2.1 j (List.mem_range.2 hlt)
    rw [hj] at this
    simp only [Bool.not_true, Bool.false_or, List.any_eq_true] at this
    obtain ⟨k, hk, hkj⟩ := this
    obtain ⟨e, h1, h2, rfl⟩ := of_edges hk
    refine ⟨e, h1, h2, ?_⟩
    simpa using hkj
  · have := (key i o ho).2.2.1
    rw [Bool.or_eq_true] at this
    rcases this with h1 | h1
    · simp at h1; omega
    · exact List.all_eq_true.1 h1 j (List.mem_range.2 hj)
  · have := (key i o ho).2.2.2
    rw [hg] at this
    simpa using this

section
variable {g0 : Gh} {w0 : World} {D : List Deferred} {G : Nat → AV} {Q : AX → AEnv → AState → Prop} {ops : List Oper} {m : Nat}

def Closed (ops : List Oper) (L : Array Bool) : Prop := ∀ (i : Nat) o, ops[i]? = some o → lst L i → ∀ e ∈ o.after, Region.binds .any e = true → lst L e.on

theorem bef_listed (H : SufOk ops m) {L : Array Bool} (hc : Closed ops L) {j : Nat} (hj : j < ops.length) : ∀ (k i : Nat) o, i < k → ops[i]? = some o → (∀ e ∈ o.after, Region.binds .any e = true → lst L e.on) → ((befD ops).getD i 0).testBit j = true → lst L j
  | 0, i, o, hk, _, _, _ => by omega
  | k + 1, i, o, hk, ho, hp, hb => by
    obtain ⟨e, h1, h2, h3⟩ := H.bef i j o ho hb hj
    rcases h3 with h3 | h3
    · rw [← h3]; exact hp e h1 h2
    · have hlt := H.edge i o ho e h1 h2
      have hil : i < ops.length := (List.getElem?_eq_some_iff.1 ho).1
      have h4 : ops[e.on]? = some (ops[e.on]'(by omega)) := List.getElem?_eq_getElem (by omega)
      exact bef_listed H hc hj k e.on _ (by omega) h4 (hc e.on _ h4 (hp e h1 h2)) h3

theorem mem_ready' {j : Nat} {L : Array Bool} (hs : L.size = ops.length) : j ∈ Region.ready .any ops.toArray L ↔ ¬ lst L j ∧ ∃ o, ops[j]? = some o ∧ ∀ e ∈ o.after, Region.binds .any e = true → lst L e.on := by
  rw [mem_ready]
  constructor
  · rintro ⟨h1, o, h2, h3⟩
    have h2' : ops[j]? = some o := by simpa using h2
    have hlt : j < L.size := by rw [hs]; exact (List.getElem?_eq_some_iff.1 h2').1
    refine ⟨?_, o, h2', h3⟩
    unfold lst
    simp [Array.getD_eq_getD_getElem?, hlt] at h1 ⊢
    exact h1
  · rintro ⟨h1, o, h2, h3⟩
    have hlt : j < L.size := by rw [hs]; exact (List.getElem?_eq_some_iff.1 h2).1
    refine ⟨?_, o, by simpa using h2, h3⟩
    unfold lst at h1
    simp [Array.getD_eq_getD_getElem?, hlt] at h1 ⊢
    exact h1

theorem Closed.set {L : Array Bool} (hc : Closed ops L) (hs : L.size = ops.length) {i : Nat} {o : Oper} (ho : ops[i]? = some o) (hp : ∀ e ∈ o.after, Region.binds .any e = true → lst L e.on) : Closed ops (L.setIfInBounds i true) := fun k o' ho' hl e he hb => by
  have hi : i < L.size := by rw [hs]; exact (List.getElem?_eq_some_iff.1 ho).1
  rw [lst_set hi] at hl ⊢
  rcases hl with hl | hl
  · exact .inl (hc k o' ho' hl e he hb)
  · subst hl
    rw [ho] at ho'
    cases ho'
    exact .inl (hp e he hb)

theorem any_seq (hG : GOK G g0) (hGp : GPl G) (H : SufOk ops m) {r : Option Nat} {n : Nat} : ∀ (k i : Nat) (L : Array Bool) (env : AEnv) (σ : AState) (a : Act) (w : World), k + i = ops.length → m ≤ i → L.size = ops.length → (∀ j, lst L j ↔ j < i) → awOps P G ops Q (ops.drop i) env σ → Inv g0 w0 D env σ a w →
    wpAnyIn (FW r) n P .any ops.toArray (QInv g0 w0 D Q) k L a w
  | 0, i, L, env, σ, a, w, hk, hm, hs, hL, h, hi => by
    have hr : Region.ready .any ops.toArray L = [] := List.eq_nil_iff_forall_not_mem.2 fun j hj => by
      obtain ⟨h1, o, h2, _⟩ := (mem_ready' hs).1 hj
      have := (List.getElem?_eq_some_iff.1 h2).1
      exact h1 ((hL j).2 (by omega))
    rw [List.drop_eq_nil_of_le (by omega)] at h
    exact ⟨hr, env, σ, h, hi⟩
  | k + 1, i, L, env, σ, a, w, hk, hm, hs, hL, h, hi => by
    have hlt : i < ops.length := by omega
    have ho : ops[i]? = some ops[i] := List.getElem?_eq_getElem hlt
    have hcl : Closed ops L := fun j o hj hl e he hb => by
      have := H.edge j o hj e he hb
      rw [hL] at hl ⊢
      omega
    have hir : i ∈ Region.ready .any ops.toArray L := (mem_ready' hs).2 ⟨by rw [hL]; omega, _, ho, fun e he hb => (hL _).2 (H.edge i _ ho e he hb)⟩
    refine ⟨fun hr => (by rw [hr] at hir; cases hir), fun i' hi' => ?_⟩
    obtain ⟨h1, o', h2, h3⟩ := (mem_ready' hs).1 hi'
    have hlt' := (List.getElem?_eq_some_iff.1 h2).1
    have e : i' = i := by
      rw [hL] at h1
      by_cases hne : i' = i
      · exact hne
      · have h4 := H.seq i' i o' h2 (by omega) (by omega)
        have h5 := bef_listed H hcl hlt (i' + 1) i' o' (by omega) h2 h3 h4
        rw [hL] at h5
        omega
    subst e
    rw [ho] at h2
    cases h2
    rw [List.drop_eq_getElem_cons hlt] at h
    simp only [awOps] at h
    have hsz : i' < L.size := by omega
    have hL' : ∀ j, lst (L.setIfInBounds i' true) j ↔ j < i' + 1 := fun j => by rw [lst_set hsz, hL]; omega
    have hs' : (L.setIfInBounds i' true).size = ops.length := by simp [hs]
    obtain ⟨hd, g, hx, hsim, he⟩ := hi
    unfold wpOpIn
    rw [show ops.toArray[i']? = some ops[i'] by simp]
    simp only
    split at h <;> try exact h.elim
    rename_i b hb
    rw [gval_sound he hb]
    cases b with
    | true =>
      rw [brK_true] at h
      simp only [if_true]
      refine stp_wpIn (aop_sound hx hsim he (hG.ext hx) hGp hd (next := wpAnyIn (FW r) n P .any ops.toArray (QInv g0 w0 D Q) k (L.setIfInBounds i' true)) (fun env' σ' a' w' hk' hi' => any_seq hG hGp H k (i' + 1) _ env' σ' a' w' (by omega) (by omega) hs' hL' hk' hi') QInv.pan h) (aop_defer h)
    | false =>
      rw [brK_false] at h
      simp only [Bool.false_eq_true, if_false]
      refine ⟨fun _ _ => trivial, any_seq hG hGp H k (i' + 1) _ _ _ _ _ (by omega) (by omega) hs' hL' h ⟨by rw [put_defers]; exact hd, g, hx, hsim, ?_⟩⟩
      exact he.put' ops[i'].dst (.tup [] #[] rfl (fun j c v h => by simp at h)) (fun i _ => ⟨trivial, fun cs vs e1 e2 k c' v' h1 h2 => by cases e1; simp at h1⟩) a rfl

theorem any_pre {F : Fence} {n : Nat} (H : SufOk ops m) {Q1 Q2 : Exit → Act → World → Prop} (hp : ∀ ch a w, Q1 (.panic ch) a w → Q2 (.panic ch) a w) (hl : LetsOut Q1 → LetsOut Q2)
    (hn : ∀ a w, Q1 .normal a w → ∀ L : Array Bool, L.size = ops.length → (∀ j, lst L j ↔ j < m) → wpAnyIn F n P .any ops.toArray Q2 (ops.length - m) L a w) :
    ∀ (fuel : Nat) (LP LF : Array Bool) (a : Act) (w : World), left LP = fuel → LP.size = m → LF.size = ops.length → (∀ j, j < m → (lst LP j ↔ lst LF j)) → (∀ j, m ≤ j → ¬ lst LF j) → Closed ops LF →
      wpAnyIn F n P .any (ops.take m).toArray Q1 fuel LP a w → wpAnyIn F n P .any ops.toArray Q2 (fuel + (ops.length - m)) LF a w
  | 0, LP, LF, a, w, hf, hsp, hsf, hag, hno, hcl, h => by
    have hall : ∀ j, j < m → lst LP j := fun j hj => by
      have hlt : j < LP.size := by omega
      cases e : LP[j] with
      | true => unfold lst; simp [Array.getD_eq_getD_getElem?, hlt, e]
      | false =>
        exfalso
        have := count_set LP.toList j (by simp [hlt, e])
        unfold left at hf
        omega
    rw [Nat.zero_add]
    refine hn a w h.2 LF hsf fun j => ⟨fun hj => ?_, fun hj => (hag j hj).1 (hall j hj)⟩
    rcases Nat.lt_or_ge j m with h1 | h1
    · exact h1
    · exact absurd hj (hno j h1)
  | fuel + 1, LP, LF, a, w, hf, hsp, hsf, hag, hno, hcl, h => by
    have hex : ∃ j, j < m ∧ ¬ lst LP j := by
      apply Classical.byContradiction
      intro hc
      have hall : ∀ x ∈ LP.toList, x ≠ false := fun x hx => by
        obtain ⟨j, hj, rfl⟩ := List.mem_iff_getElem.1 hx
        intro e
        have hlt : j < LP.size := by simpa using hj
        refine hc ⟨j, by omega, ?_⟩
        unfold lst
        simp [Array.getD_eq_getD_getElem?, hlt] at e ⊢
        exact e
      have : left LP = 0 := List.count_eq_zero.2 fun hm => hall false hm rfl
      omega
    have hle := H.le
    have hpre : ∀ j, j < m → (ops.take m)[j]? = ops[j]? := fun j hj => List.getElem?_take_of_lt hj
    have hmin : ∃ j, j < m ∧ ¬ lst LP j ∧ ∀ k, k < j → lst LP k := by
      obtain ⟨j, hj⟩ := hex
      induction j using Nat.strongRecOn with
      | _ j ih =>
        by_cases hk : ∃ k, k < j ∧ ¬ lst LP k
        · obtain ⟨k, h1, h2⟩ := hk
          exact ih k h1 ⟨by omega, h2⟩
        · exact ⟨j, hj.1, hj.2, fun k h1 => Classical.byContradiction fun h2 => hk ⟨k, h1, h2⟩⟩
    obtain ⟨j0, hj0, hj1, hj2⟩ := hmin
    have hready : j0 ∈ Region.ready .any ops.toArray LF := (mem_ready' hsf).2 ⟨fun hc => hj1 ((hag j0 hj0).2 hc), ops[j0], List.getElem?_eq_getElem (by omega), fun e he hb => by
      have := H.edge j0 _ (List.getElem?_eq_getElem (by omega)) e he hb
      exact (hag _ (by omega)).1 (hj2 _ this)⟩
    rw [show fuel + 1 + (ops.length - m) = (fuel + (ops.length - m)) + 1 by omega]
    refine ⟨fun hr => (by rw [hr] at hready; cases hready), fun i hi => ?_⟩
    obtain ⟨h1, o, h2, h3⟩ := (mem_ready' hsf).1 hi
    have him : i < m := by
      rcases Nat.lt_or_ge i m with h4 | h4
      · exact h4
      · have h5 := bef_listed H hcl (j := j0) (by omega) (i + 1) i o (by omega) h2 h3 (H.seq i j0 o h2 h4 (by omega))
        exact absurd ((hag j0 hj0).2 h5) hj1
    have hsp' : LP.size = (ops.take m).length := by rw [List.length_take]; omega
    have hip : i ∈ Region.ready .any (ops.take m).toArray LP := (mem_ready' hsp').2 ⟨fun hc => h1 ((hag i him).1 hc), o, by rw [hpre i him]; exact h2, fun e he hb => (hag _ (by have := H.edge i o h2 e he hb; omega)).2 (h3 e he hb)⟩
    have hstep := h.2 i hip
    have hszP : i < LP.size := by omega
    have hszF : i < LF.size := by have := (List.getElem?_eq_some_iff.1 h2).1; omega
    have hleft : left (LP.setIfInBounds i true) = fuel := by
      have hlt : i < LP.size := hszP
      have hfalse : LP.toList[i]? = some false := by
        have hnl : ¬ lst LP i := fun hc => h1 ((hag i him).1 hc)
        unfold lst at hnl
        simp [Array.getD_eq_getD_getElem?, hlt] at hnl ⊢
        exact hnl
      have := count_set LP.toList i hfalse
      unfold left at hf ⊢
      rw [Array.toList_setIfInBounds]
      omega
    have ih : ∀ a w, wpAnyIn F n P .any (ops.take m).toArray Q1 fuel (LP.setIfInBounds i true) a w → wpAnyIn F n P .any ops.toArray Q2 (fuel + (ops.length - m)) (LF.setIfInBounds i true) a w := fun a w hh =>
      any_pre H hp hl hn fuel _ _ a w hleft (by simp [hsp]) (by simp [hsf]) (fun j hj => by rw [lst_set hszP, lst_set hszF, hag j hj]) (fun j hj hc => by
        rw [lst_set hszF] at hc
        rcases hc with hc | hc
        · exact hno j hj hc
        · omega) (hcl.set hsf h2 h3) hh
    unfold wpOpIn at hstep ⊢
    rw [show (ops.take m).toArray[i]? = some o by simp [List.getElem?_take_of_lt him, h2]] at hstep
    rw [show ops.toArray[i]? = some o by simpa using h2]
    simp only at hstep ⊢
    have hw : Region.wanted o (yielded (ops.take m).toArray a.tmps) = Region.wanted o (yielded ops.toArray a.tmps) := by
      unfold Region.wanted
      cases hg : o.guard with
      | none => rfl
      | some p =>
        obtain ⟨j, want⟩ := p
        have hj := H.guard i j o want h2 hg
        have : yielded (ops.take m).toArray a.tmps j = yielded ops.toArray a.tmps j := by
          unfold yielded
          rw [show (ops.take m).toArray[j]? = ops.toArray[j]? by simp [List.getElem?_take_of_lt (show j < m by omega)]]
        simp only [this]
    rw [hw] at hstep
    split
    · rename_i hww
      rw [if_pos hww] at hstep
      exact oper_monoQ ih hp hl hstep
    · rename_i hww
      rw [if_neg hww] at hstep
      exact ⟨hstep.1, ih _ _ hstep.2⟩

def sufQ (P : Program) (G : Nat → AV) (ops l : List Oper) (Q : AX → AEnv → AState → Prop) : AX → AEnv → AState → Prop
  | .normal => awOps P G ops Q l
  | x => Q x

variable {rs : Option Nat → Prop} {env : AEnv} {σ : AState}

/-- A region that draws its order, but for its last operations. -/
theorem AWp.drawS {id : Nat} {ops : List Oper} (m : Nat) (hm : P.follows .mixedOrders = true) (hok : okD (ops.take m) (befD (ops.take m)) (noC (ops.take m)) = true) (hsuf : sufOK ops m = true) (h : awT P G (ops.take m) (sufQ P G ops (ops.drop m) Q) (ops.take m) env σ) :
    AWp P rs G (.region id ⟨ops⟩ true) Q env σ := fun g0 w0 D r n a w hr h1 h2 h3 => by
  refine Go.wpIn_mono (Q := QInv g0 w0 D Q) ?_ QInvM.of
  have H := SufOk.of hsuf
  have hle := H.le
  have hok' := Ok.of hok
  obtain ⟨cs, es, sts, ht, hq⟩ := awD_trace _ _ _ (show awD P G (ops.take m) (sufQ P G ops (ops.drop m) Q) (drawF (ops.take m)) env σ from h)
  rw [← zip_noC] at ht hq
  have hlen : ((ops.take m).zip (noC (ops.take m))).length = (ops.take m).length := by simp [noC]
  rw [hlen] at hq
  have hpre := any_run (r := r) (n := n) (w0 := w0) (D := D) (Q := sufQ P G ops (ops.drop m) Q) h2 h1 hok' ht hq (ops.take m).length (Array.replicate (ops.take m).length false) env σ a { w with drawn := w.drawn + 1 } (by unfold left; simp) ⟨by simp, fun i o ho hl => by
      exfalso
      unfold lst at hl
      simp [Array.getD_eq_getD_getElem?, Array.getElem?_replicate] at hl
      split at hl <;> simp at hl, ⟨rfl, fun t _ => rfl, fun t j o _ _ hl => by
      exfalso
      unfold lst at hl
      simp [Array.getD_eq_getD_getElem?, Array.getElem?_replicate] at hl
      split at hl <;> simp at hl⟩, 0, Nat.zero_le _, by rw [ht.s0], fun k hk => ⟨fun hl => by
      exfalso
      unfold lst at hl
      simp [Array.getD_eq_getD_getElem?, Array.getElem?_replicate] at hl
      split at hl <;> simp at hl, fun hl => by omega⟩⟩ (h3.drew _)
  have hl : (ops.take m).length = m := by rw [List.length_take]; omega
  rw [hl] at hpre
  refine wpIn_region_any hm ?_
  have hno : ∀ (k j : Nat), ¬ lst (Array.replicate k false) j := fun k j hl => by
    unfold lst at hl
    simp [Array.getD_eq_getD_getElem?, Array.getElem?_replicate] at hl
    split at hl <;> simp at hl
  have := any_pre (F := FW r) (n := n) (P := P) H (Q1 := QInv g0 w0 D (sufQ P G ops (ops.drop m) Q)) (Q2 := QInv g0 w0 D Q) (fun ch a w q => q) (fun ⟨a, w, q⟩ => q.elim) (fun a' w' q L hs hL => by
      obtain ⟨e, s, k1, k2⟩ := q
      exact any_seq h2 h1 H (ops.length - m) m L e s a' w' (by omega) (Nat.le_refl _) hs hL k1 k2) m (Array.replicate m false) (Array.replicate ops.length false) a _ (by unfold left; simp) (by simp) (by simp) (fun j hj => ⟨fun h => absurd h (hno _ _), fun h => absurd h (hno _ _)⟩) (fun j hj => hno _ _) (fun i o ho hl => absurd hl (hno _ _)) hpre
  rw [show m + (ops.length - m) = ops.length by omega] at this
  simpa using this
theorem nSuf {l : List Oper} (h : awOps P G ops Q l env σ) : sufQ P G ops l Q .normal env σ := h
end
end Go.Proofs.Ytoofpdmdgofdcaa.E
