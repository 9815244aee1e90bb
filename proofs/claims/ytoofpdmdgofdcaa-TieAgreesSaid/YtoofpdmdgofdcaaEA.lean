/- The abstract states of a program logic over the model: abstract values, what they stand for in memory, and the invariant that ties an abstract state to a world. Generic in the program; no condition. -/
import Derived.RangeFuncIn
import Derived.Below
import Derived.Laws.World
import Derived.DataShut
import Derived.Laws.Sem
import Derived.Laws.Entries
import Derived.Laws.Strings
import Derived.Laws.StructEq
import Derived.Laws.BytesArg
import Derived.Laws.Cells
import Derived.RangeFuncRecord
namespace Go.Proofs.Ytoofpdmdgofdcaa.E
open Go Go.RowKit
set_option linter.unusedVariables false
set_option linter.unusedSimpArgs false

/-- May a slice be appended to? 'yes z': the room behind it is nobody else's (an element has z cells); 'nil': it is nil. -/
inductive Ow where
  | no
  | yes (z : Nat)
  | nil

/-- An abstract value. 'sl own n cs': a slice of n elements, its cells read as cs; 'sm': a slice over an object of the abstract heap; 'pi cs k': a pointer to cell k of memory that does not change any more; 'pm': a pointer to an object of the abstract heap. -/
inductive AV where
  | u
  | b (x : Bool)
  | i (k : IntKind) (n : Int)
  | s (l : List UInt8)
  | nilp
  | nilfn
  | nilif
  | nilmap
  | agg (cs : List AV)
  | tup (vs : List AV)
  | sl (own : Ow) (n : Nat) (cs : List AV)
  | sm (id off n cap z : Nat)
  | pi (cs : List AV) (k : Nat)
  | pm (id off : Nat)
  | mp (id : Nat)
  | yl (id : Nat)
  | fn (f : FuncId) (cap : List AV)
  | ifc (t : TypeId) (x : AV)
  | val (x : Value)

/-- An object of the abstract heap. -/
inductive AObj where
  | cells (cs : List AV)
  | map (es : List (AV × AV))
  | it (n : Nat) (seen : List Nat) (ms : List AV)
  | loop (r : Loop) (env : List AV)

abbrev AState := List AObj
abbrev AEnv := List AV
abbrev Imm := Nat → Nat → Option Value

def inR (k : IntKind) (n : Int) : Prop := k.min ≤ n ∧ n ≤ k.max

/-- An abstract value stands for a value: 'S' are the cells that do not change any more, 'ρ' tells the block of each object. -/
inductive R (S : Imm) (ρ : List Nat) : AV → Value → Prop
  | u (v : Value) : R S ρ .u v
  | b (x : Bool) : R S ρ (.b x) (.bool x)
  | i (k : IntKind) (n : Int) (h : inR k n) : R S ρ (.i k n) (.int k n)
  | s (l : List UInt8) (h : l.length ≤ 2 ^ 60) : R S ρ (.s l) (.string ⟨l.toArray⟩)
  | nilp : R S ρ .nilp (.pointer none)
  | nilfn : R S ρ .nilfn .nilFunc
  | nilif : R S ρ .nilif .nilIface
  | nilmap : R S ρ .nilmap (.map none)
  | agg (cs : List AV) (vs : Array Value) (hl : vs.size = cs.length) (h : ∀ (j : Nat) (c : AV) (v : Value), cs[j]? = some c → vs[j]? = some v → R S ρ c v) : R S ρ (.agg cs) (.agg vs)
  | tup (cs : List AV) (vs : Array Value) (hl : vs.size = cs.length) (h : ∀ (j : Nat) (c : AV) (v : Value), cs[j]? = some c → vs[j]? = some v → R S ρ c v) : R S ρ (.tup cs) (.tuple vs)
  | sl0 (o : Ow) : R S ρ (.sl o 0 []) (.slice none 0 0)
  | sl (o : Ow) (ho : o ≠ .nil) (n : Nat) (cs : List AV) (bk off cap : Nat) (hn : n ≤ cap) (hc : n ≤ 2 ^ 48) (vs : Nat → Value) (hS : ∀ (j : Nat) (c : AV), cs[j]? = some c → S bk (off + j) = some (vs j)) (h : ∀ (j : Nat) (c : AV), cs[j]? = some c → R S ρ c (vs j)) :
      R S ρ (.sl o n cs) (.slice (some ⟨bk, off, none⟩) n cap)
  | sm (id off n cap z bk : Nat) (hb : ρ[id]? = some bk) (hn : n ≤ cap) (hc : n ≤ 2 ^ 48) : R S ρ (.sm id off n cap z) (.slice (some ⟨bk, off, none⟩) n cap)
  | pi (cs : List AV) (k bk off : Nat) (vs : Nat → Value) (hS : ∀ (j : Nat) (c : AV), cs[j]? = some c → S bk (off + j) = some (vs j)) (h : ∀ (j : Nat) (c : AV), cs[j]? = some c → R S ρ c (vs j)) : R S ρ (.pi cs k) (.pointer (some ⟨bk, off + k, none⟩))
  | pm (id off bk : Nat) (hb : ρ[id]? = some bk) : R S ρ (.pm id off) (.pointer (some ⟨bk, off, none⟩))
  | mp (id bk : Nat) (hb : ρ[id]? = some bk) : R S ρ (.mp id) (.map (some bk))
  | yl (id bk : Nat) (hb : ρ[id]? = some bk) : R S ρ (.yl id) (.func (.yield bk) #[] #[])
  | fn (f : FuncId) (cs : List AV) (vs : Array Value) (hl : vs.size = cs.length) (h : ∀ (j : Nat) (c : AV) (v : Value), cs[j]? = some c → vs[j]? = some v → R S ρ c v) : R S ρ (.fn f cs) (.func (.func f) #[] vs)
  | ifc (t : TypeId) (x : AV) (v : Value) (h : R S ρ x v) : R S ρ (.ifc t x) (.iface t v)
  | val (x : Value) : R S ρ (.val x) x

theorem R.mono {S S' : Imm} {ρ ρ' : List Nat} (hS : ∀ b o v, S b o = some v → S' b o = some v) (hρ : ∀ (id bk : Nat), ρ[id]? = some bk → ρ'[id]? = some bk) {c : AV} {v : Value} (h : R S ρ c v) : R S' ρ' c v := by
  induction h with
  | u v => exact .u v
  | b x => exact .b x
  | i k n h => exact .i k n h
  | s l h => exact .s l h
  | nilp => exact .nilp
  | nilfn => exact .nilfn
  | nilif => exact .nilif
  | nilmap => exact .nilmap
  | agg cs vs hl _ ih => exact .agg cs vs hl ih
  | tup cs vs hl _ ih => exact .tup cs vs hl ih
  | sl0 o => exact .sl0 o
  | sl o ho n cs bk off cap hn hc vs h1 _ ih => exact .sl o ho n cs bk off cap hn hc vs (fun j c hj => hS _ _ _ (h1 j c hj)) ih
  | sm id off n cap z bk hb hn hc => exact .sm id off n cap z bk (hρ _ _ hb) hn hc
  | pi cs k bk off vs h1 _ ih => exact .pi cs k bk off vs (fun j c hj => hS _ _ _ (h1 j c hj)) ih
  | pm id off bk hb => exact .pm id off bk (hρ _ _ hb)
  | mp id bk hb => exact .mp id bk (hρ _ _ hb)
  | yl id bk hb => exact .yl id bk (hρ _ _ hb)
  | fn f cs vs hl _ ih => exact .fn f cs vs hl ih
  | ifc t x v _ ih => exact .ifc t x v ih
  | val x => exact .val x

/-- Who owns the spare room behind a slice: a temporary (or a part of a tuple in it), or a cell of an object. -/
inductive Slot where
  | t (i k : Nat)
  | o (id j : Nat)

structure Gh where
  S : Imm
  ρ : List Nat
  ow : Nat → Option (Slot × Nat × Nat)

def OwnOK (g : Gh) (s : Slot) : AV → Value → Prop
  | .sl (.yes z) _ cs, .slice (some a) len cap => cap = len ∨ g.ow a.block = some (s, a.off + cs.length, a.off + cap * z)
  | _, _ => True

def TopOwn (g : Gh) (i : Nat) (c : AV) (v : Value) : Prop :=
  OwnOK g (.t i 0) c v ∧ ∀ cs vs, c = .tup cs → v = .tuple vs → ∀ (k : Nat) (c' : AV) (v' : Value), cs[k]? = some c' → vs[k]? = some v' → OwnOK g (.t i (k + 1)) c' v'

/-- No cell of the row is marked as shared with a string, from 'h' on. -/
def Free (vs : Array Value) (fr : Nat × Nat) (h : Nat) : Prop := ∀ o, h ≤ o → o < vs.size → ¬ (fr.1 ≤ o ∧ o < fr.2)

def ObjOK (g : Gh) (w : World) (id : Nat) : AObj → Prop
  | .cells cs => ∃ bk vs E fr, g.ρ[id]? = some bk ∧ w.heap[bk]? = some (.cells vs E fr) ∧ vs.size = cs.length ∧ Free vs fr 0 ∧ (∀ o, g.S bk o = none) ∧ g.ow bk = none ∧
      ∀ (j : Nat) (c : AV) (v : Value), cs[j]? = some c → vs[j]? = some v → R g.S g.ρ c v ∧ OwnOK g (.o id j) c v
  | .map es => ∃ bk ms clock, g.ρ[id]? = some bk ∧ w.heap[bk]? = some (.map ms clock) ∧ (ms.size = es.length ∧ clock = es.length ∧ ∀ (j : Nat) (m : MapEntry), ms[j]? = some m → m.born = j) ∧ (∀ o, g.S bk o = none) ∧ g.ow bk = none ∧
      ∀ (j : Nat) (e : AV × AV) (m : MapEntry), es[j]? = some e → ms[j]? = some m → R g.S g.ρ e.1 m.key ∧ R g.S g.ρ e.2 m.val
  | .loop r env => ∃ bk, g.ρ[id]? = some bk ∧ w.heap[bk]? = some (.loop r) ∧ r.tmps.size = env.length ∧ (∀ o, g.S bk o = none) ∧ g.ow bk = none ∧
      ∀ (j : Nat) (c : AV) (v : Value), env[j]? = some c → r.tmps[j]? = some v → R g.S g.ρ c v
  | .it n seen ms => ∃ bk x, g.ρ[id]? = some bk ∧ w.heap[bk]? = some (.mapIter x n seen.toArray n) ∧ (#[Value.map x]).size = ms.length ∧ (∀ o, g.S bk o = none) ∧ g.ow bk = none ∧
      ∀ (j : Nat) (c : AV) (v : Value), ms[j]? = some c → (#[Value.map x])[j]? = some v → R g.S g.ρ c v

structure Sim (g : Gh) (σ : AState) (w : World) : Prop where
  imm : ∀ bk o v, g.S bk o = some v → w.cell? ⟨bk, o, none⟩ = some v
  len : g.ρ.length = σ.length
  inj : ∀ (i j bk : Nat), g.ρ[i]? = some bk → g.ρ[j]? = some bk → i = j
  obj : ∀ (id : Nat) (o : AObj), σ[id]? = some o → ObjOK g w id o
  own : ∀ bk s h e, g.ow bk = some (s, h, e) → ∃ vs E fr, w.heap[bk]? = some (.cells vs E fr) ∧ e ≤ vs.size ∧ Free vs fr h ∧ ∀ o, h ≤ o → g.S bk o = none

/-- What a call (or a part of one) may have done to the world. -/
structure Ext (g0 : Gh) (w0 : World) (g : Gh) (w : World) : Prop where
  os : w.os = w0.os
  tape : w.tape = w0.tape
  output : w.output = w0.output
  size : w0.heap.size ≤ w.heap.size
  S : ∀ bk o v, g0.S bk o = some v → g.S bk o = some v
  ρ : ∀ (id bk : Nat), g0.ρ[id]? = some bk → g.ρ[id]? = some bk
  keep : ∀ bk, bk < w0.heap.size → (∀ id : Nat, g0.ρ[id]? ≠ some bk) → g0.ow bk = none → w.heap[bk]? = w0.heap[bk]? ∧ ∀ o, g.S bk o = g0.S bk o
  newρ : ∀ (id bk : Nat), g.ρ[id]? = some bk → w0.heap.size ≤ bk ∨ ∃ id0 : Nat, g0.ρ[id0]? = some bk
  newow : ∀ bk x, g.ow bk = some x → w0.heap.size ≤ bk ∨ g0.ow bk ≠ none

theorem Ext.refl (g : Gh) (w : World) : Ext g w g w :=
  ⟨rfl, rfl, rfl, Nat.le_refl _, fun _ _ _ h => h, fun _ _ h => h, fun _ _ _ _ => ⟨rfl, fun _ => rfl⟩, fun id _ h => .inr ⟨id, h⟩, fun _ _ h => .inr (by rw [h]; simp)⟩

theorem Ext.trans {g0 g1 g2 : Gh} {w0 w1 w2 : World} (h : Ext g0 w0 g1 w1) (h' : Ext g1 w1 g2 w2) : Ext g0 w0 g2 w2 where
  os := h'.os.trans h.os
  tape := h'.tape.trans h.tape
  output := h'.output.trans h.output
  size := Nat.le_trans h.size h'.size
  S := fun _ _ _ x => h'.S _ _ _ (h.S _ _ _ x)
  ρ := fun _ _ x => h'.ρ _ _ (h.ρ _ _ x)
  keep := fun bk hb hr ho => by
    have h1 : ∀ id : Nat, g1.ρ[id]? ≠ some bk := fun id e => by
      rcases h.newρ id bk e with h2 | ⟨i0, h2⟩
      · omega
      · exact hr i0 h2
    have h2 : g1.ow bk = none := by
      cases e : g1.ow bk with
      | none => rfl
      | some x =>
        rcases h.newow bk x e with h3 | h3
        · omega
        · exact absurd ho h3
    have k1 := h.keep bk hb hr ho
    have k2 := h'.keep bk (Nat.lt_of_lt_of_le hb h.size) h1 h2
    exact ⟨k2.1.trans k1.1, fun o => (k2.2 o).trans (k1.2 o)⟩
  newρ := fun id bk e => by
    rcases h'.newρ id bk e with h2 | ⟨i0, h2⟩
    · exact .inl (Nat.le_trans h.size h2)
    · exact h.newρ i0 bk h2
  newow := fun bk x e => by
    rcases h'.newow bk x e with h2 | h2
    · exact .inl (Nat.le_trans h.size h2)
    · cases e1 : g1.ow bk with
      | none => exact absurd e1 h2
      | some y => exact h.newow bk y e1

def EnvOK (g : Gh) (env : AEnv) (tmps : Array Value) : Prop :=
  tmps.size = env.length ∧ ∀ (i : Nat) (c : AV) (v : Value), env[i]? = some c → tmps[i]? = some v → R g.S g.ρ c v ∧ TopOwn g i c v

def Inv (g0 : Gh) (w0 : World) (D : List Deferred) (env : AEnv) (σ : AState) (a : Act) (w : World) : Prop :=
  a.defers = D ∧ ∃ g, Ext g0 w0 g w ∧ Sim g σ w ∧ EnvOK g env a.tmps

/-- A value that may not be appended to. -/
def AV.pl : AV → AV
  | .sl _ n cs => .sl .no n cs
  | .tup _ => .u
  | c => c

theorem ownOK_pl (g : Gh) (s : Slot) (c : AV) (v : Value) : OwnOK g s c.pl v := by
  cases c <;> simp [AV.pl, OwnOK]

theorem topOwn_of {g : Gh} {i : Nat} {c : AV} {v : Value} (h : OwnOK g (.t i 0) c v) (hc : ∀ cs, c ≠ .tup cs) : TopOwn g i c v :=
  ⟨h, fun cs _ e => absurd e (hc cs)⟩

theorem pl_tup (c : AV) (cs : List AV) : c.pl ≠ .tup cs := by cases c <;> simp [AV.pl]

theorem topOwn_pl (g : Gh) (i : Nat) (c : AV) (v : Value) : TopOwn g i c.pl v := topOwn_of (ownOK_pl g _ c v) (pl_tup c)

theorem R.pl {S : Imm} {ρ : List Nat} {c : AV} {v : Value} (h : R S ρ c v) : R S ρ c.pl v := by
  cases h with
  | sl0 o => exact .sl0 .no
  | sl o ho n cs bk off cap hn hc vs h1 h => exact .sl .no (by simp) n cs bk off cap hn hc vs h1 h
  | tup cs vs hl h => exact .u _
  | u v => exact .u _
  | b x => exact .b x
  | i k n h => exact .i k n h
  | s l h => exact .s l h
  | nilp => exact .nilp
  | nilfn => exact .nilfn
  | nilif => exact .nilif
  | nilmap => exact .nilmap
  | agg cs vs hl h => exact .agg cs vs hl h
  | sm id off n cap z bk hb hn hc => exact .sm id off n cap z bk hb hn hc
  | pi cs k bk off vs h1 h => exact .pi cs k bk off vs h1 h
  | pm id off bk hb => exact .pm id off bk hb
  | mp id bk hb => exact .mp id bk hb
  | yl id bk hb => exact .yl id bk hb
  | fn f cs vs hl h => exact .fn f cs vs hl h
  | ifc t x v h => exact .ifc t x v h
  | val => exact .val _

/-- Who owns what may change, as long as all that is told of it stays true. -/
theorem OwnOK.mono {g g' : Gh} {s s' : Slot} {c : AV} {v : Value} (h : OwnOK g s c v) (hg : ∀ bk h, g.ow bk = some (s, h) → g'.ow bk = some (s', h)) : OwnOK g' s' c v := by
  unfold OwnOK at *
  split at h
  · rcases h with h | h
    · exact .inl h
    · exact .inr (hg _ _ h)
  · trivial

/-- A temporary is set to a value that bears no room of its own. -/
def aput (env : AEnv) (d : Option Tmp) (c : AV) : AEnv :=
  match d with
  | some d => env.set d c
  | none => env

theorem EnvOK.put {g : Gh} {env : AEnv} {tmps : Array Value} (h : EnvOK g env tmps) {d : Nat} {c : AV} {v : Value} (hr : R g.S g.ρ c v) (ho : TopOwn g d c v) : EnvOK g (env.set d c) (tmps.setIfInBounds d v) := by
  refine ⟨by simp [h.1], fun i c' v' hc hv => ?_⟩
  by_cases e : d = i
  · subst e
    by_cases hlt : d < env.length
    · have h1 : (env.set d c)[d]? = some c := by simp [hlt]
      have h2 : (tmps.setIfInBounds d v)[d]? = some v := by simp [h.1, hlt]
      rw [h1] at hc
      rw [h2] at hv
      cases hc
      cases hv
      exact ⟨hr, ho⟩
    · rw [List.getElem?_eq_none (by simp; omega)] at hc
      cases hc
  · have h1 : (env.set d c)[i]? = env[i]? := by simp [List.getElem?_set, e]
    have h2 : (tmps.setIfInBounds d v)[i]? = tmps[i]? := by simp [Array.getElem?_setIfInBounds, e]
    rw [h1] at hc
    rw [h2] at hv
    exact h.2 i c' v' hc hv

theorem EnvOK.get {g : Gh} {env : AEnv} {tmps : Array Value} (h : EnvOK g env tmps) (t : Nat) : R g.S g.ρ (env.getD t .u) (tmps.getD t undef) := by
  by_cases hlt : t < env.length
  · have h1 : env[t]? = some (env[t]) := List.getElem?_eq_getElem hlt
    have hlt' : t < tmps.size := by rw [h.1]; exact hlt
    have h2 : tmps[t]? = some (tmps[t]) := Array.getElem?_eq_getElem hlt'
    have h3 := (h.2 t _ _ h1 h2).1
    simp only [List.getD_eq_getElem?_getD, h1, Option.getD_some]
    simp only [Array.getD_eq_getD_getElem?, h2, Option.getD_some]
    exact h3
  · rw [List.getD_eq_getElem?_getD, List.getElem?_eq_none (by omega)]
    exact .u _

end Go.Proofs.Ytoofpdmdgofdcaa.E

namespace Go.Proofs.Ytoofpdmdgofdcaa.E
open Go Go.RowKit
set_option linter.unusedVariables false
set_option linter.unusedSimpArgs false

theorem heap_lt {w : World} {bk : Nat} {o : Obj} (h : w.heap[bk]? = some o) : bk < w.heap.size := by
  rcases Nat.lt_or_ge bk w.heap.size with h1 | h1
  · exact h1
  · rw [Array.getElem?_eq_none h1] at h; cases h

theorem cell_cells {w : World} {bk : Nat} {vs : Array Value} {E : TypeId} {fr : Nat × Nat} (h : w.heap[bk]? = some (.cells vs E fr)) (o : Nat) : w.cell? ⟨bk, o, none⟩ = vs[o]? := by
  simp [World.cell?, h]

theorem Sim.S_lt {g : Gh} {σ : AState} {w : World} (h : Sim g σ w) {bk o : Nat} {v : Value} (hs : g.S bk o = some v) : bk < w.heap.size := by
  have h1 := h.imm bk o v hs
  unfold World.cell? at h1
  split at h1
  · rename_i h2; exact heap_lt h2
  · cases h1

theorem Sim.S_new {g : Gh} {σ : AState} {w : World} (h : Sim g σ w) {bk : Nat} (hb : w.heap.size ≤ bk) (o : Nat) : g.S bk o = none := by
  cases e : g.S bk o with
  | none => rfl
  | some v => have := h.S_lt e; omega

theorem Sim.ρ_lt {g : Gh} {σ : AState} {w : World} (h : Sim g σ w) {id bk : Nat} (hr : g.ρ[id]? = some bk) : bk < w.heap.size := by
  have h1 : id < σ.length := by
    rw [← h.len]
    exact (List.getElem?_eq_some_iff.1 hr).1
  have h2 := h.obj id _ (List.getElem?_eq_getElem h1)
  cases e : σ[id] with
  | cells cs =>
    rw [e] at h2
    obtain ⟨b2, vs, E, fr, h3, h4, _⟩ := h2
    rw [hr] at h3
    cases h3
    exact heap_lt h4
  | map es =>
    rw [e] at h2
    obtain ⟨b2, ms, clock, h3, h4, _⟩ := h2
    rw [hr] at h3
    cases h3
    exact heap_lt h4
  | loop r es =>
    rw [e] at h2
    obtain ⟨b2, h3, h4, _⟩ := h2
    rw [hr] at h3
    cases h3
    exact heap_lt h4
  | it itn its es =>
    rw [e] at h2
    obtain ⟨b2, itx, h3, h4, _⟩ := h2
    rw [hr] at h3
    cases h3
    exact heap_lt h4

theorem Sim.ow_lt {g : Gh} {σ : AState} {w : World} (h : Sim g σ w) {bk : Nat} {x : Slot × Nat × Nat} (ho : g.ow bk = some x) : bk < w.heap.size := by
  obtain ⟨vs, E, fr, h1, _⟩ := h.own bk x.1 x.2.1 x.2.2 ho
  exact heap_lt h1

/-- The world has changed nowhere but in blocks of which nothing is told. -/
theorem Sim.world {g : Gh} {σ : AState} {w w' : World} (h : Sim g σ w) (hb : ∀ bk, bk < w.heap.size → w'.heap[bk]? = w.heap[bk]?) : Sim g σ w' where
  imm := fun bk o v hs => by
    have h1 := h.imm bk o v hs
    have h2 := hb bk (h.S_lt hs)
    simp only [World.cell?] at *
    rw [h2]
    exact h1
  len := h.len
  inj := h.inj
  obj := fun id o ho => by
    have h1 := h.obj id o ho
    cases o with
    | cells cs =>
      obtain ⟨bk, vs, E, fr, h2, h3, h4⟩ := h1
      exact ⟨bk, vs, E, fr, h2, (hb bk (heap_lt h3)).trans h3, h4⟩
    | map es =>
      obtain ⟨bk, ms, clock, h2, h3, h4⟩ := h1
      exact ⟨bk, ms, clock, h2, (hb bk (heap_lt h3)).trans h3, h4⟩
    | loop r es =>
      obtain ⟨bk, h2, h3, h4⟩ := h1
      exact ⟨bk, h2, (hb bk (heap_lt h3)).trans h3, h4⟩
    | it itn its es =>
      obtain ⟨bk, itx, h2, h3, h4⟩ := h1
      exact ⟨bk, itx, h2, (hb bk (heap_lt h3)).trans h3, h4⟩
  own := fun bk s hh ee ho => by
    obtain ⟨vs, E, fr, h2, h3⟩ := h.own bk s hh ee ho
    exact ⟨vs, E, fr, (hb bk (heap_lt h2)).trans h2, h3⟩

theorem Ext.world {g0 g : Gh} {w0 w w' : World} {σ : AState} (h : Ext g0 w0 g w) (hb : ∀ bk, bk < w.heap.size → w'.heap[bk]? = w.heap[bk]?) (h1 : w'.os = w.os) (h2 : w'.tape = w.tape) (h3 : w'.output = w.output)
    (h4 : w.heap.size ≤ w'.heap.size) : Ext g0 w0 g w' :=
  h.trans ⟨h1, h2, h3, h4, fun _ _ _ x => x, fun _ _ x => x, fun bk hk _ _ => ⟨hb bk hk, fun _ => rfl⟩, fun id _ x => .inr ⟨id, x⟩, fun _ _ x => .inr (by rw [x]; simp)⟩

theorem Inv.drew {g0 : Gh} {w0 : World} {D : List Deferred} {env : AEnv} {σ : AState} {a : Act} {w : World} (h : Inv g0 w0 D env σ a w) (n : Nat) : Inv g0 w0 D env σ a { w with drawn := n } := by
  obtain ⟨hd, g, h1, h2, h3⟩ := h
  exact ⟨hd, g, h1.world (σ := σ) (fun _ _ => rfl) rfl rfl rfl (Nat.le_refl _), h2.world (fun _ _ => rfl), h3⟩

theorem R.ext {g g' : Gh} {w w' : World} (h : Ext g w g' w') {c : AV} {v : Value} (hr : R g.S g.ρ c v) : R g'.S g'.ρ c v := hr.mono h.S h.ρ

/-- The row of a new block, as cells that do not change any more. -/
def Imm.ext (S : Imm) (bk : Nat) (vs : Array Value) : Imm := fun b o => if b = bk then vs[o]? else S b o

theorem heap_alloc_lt {w : World} {o : Obj} {bk : Nat} (h : bk < w.heap.size) : (w.alloc o).heap[bk]? = w.heap[bk]? := by
  show (w.heap.push o)[bk]? = _
  rw [Array.getElem?_push, if_neg (by omega)]

theorem heap_alloc_new (w : World) (o : Obj) : (w.alloc o).heap[w.heap.size]? = some o := by
  show (w.heap.push o)[w.heap.size]? = _
  simp

theorem Ext.alloc_imm {g : Gh} {σ : AState} {w : World} (hs : Sim g σ w) (vs : Array Value) (E : TypeId) (fr : Nat × Nat) :
    Ext g w { g with S := Imm.ext g.S w.heap.size vs } (w.alloc (.cells vs E fr)) where
  os := rfl
  tape := rfl
  output := rfl
  size := by simp
  S := fun bk o v h => by
    have := hs.S_lt h
    simp only [Imm.ext]
    rw [if_neg (by omega)]
    exact h
  ρ := fun _ _ h => h
  keep := fun bk hb _ _ => ⟨heap_alloc_lt hb, fun o => by simp only [Imm.ext]; rw [if_neg (by omega)]⟩
  newρ := fun id _ h => .inr ⟨id, h⟩
  newow := fun _ _ h => .inr (by rw [h]; simp)

theorem Sim.alloc_imm {g : Gh} {σ : AState} {w : World} (hs : Sim g σ w) (vs : Array Value) (E : TypeId) (fr : Nat × Nat) :
    Sim { g with S := Imm.ext g.S w.heap.size vs } σ (w.alloc (.cells vs E fr)) where
  imm := fun bk o v h => by
    simp only [Imm.ext] at h
    split at h
    · rename_i e
      subst e
      rw [cell_cells (heap_alloc_new w _)]
      exact h
    · have h1 := hs.imm bk o v h
      have h2 := heap_alloc_lt (o := .cells vs E fr) (hs.S_lt h)
      simp only [World.cell?] at *
      rw [h2]
      exact h1
  len := hs.len
  inj := hs.inj
  obj := fun id o ho => by
    have h1 := hs.obj id o ho
    have hx := Ext.alloc_imm hs vs E fr
    cases o with
    | cells cs =>
      obtain ⟨bk, us, E', fr', h2, h3, h4, h5, h6, h7, h8⟩ := h1
      have hlt := heap_lt h3
      refine ⟨bk, us, E', fr', h2, (heap_alloc_lt hlt).trans h3, h4, h5, fun o => ?_, h7, fun j c v hc hv => ⟨(h8 j c v hc hv).1.ext hx, (h8 j c v hc hv).2⟩⟩
      simp only [Imm.ext]
      rw [if_neg (by omega)]
      exact h6 o
    | map es =>
      obtain ⟨bk, ms, clock, h2, h3, h4, h6, h7, h8⟩ := h1
      have hlt := heap_lt h3
      refine ⟨bk, ms, clock, h2, (heap_alloc_lt hlt).trans h3, h4, fun o => ?_, h7, fun j c v hc hv => ⟨(h8 j c v hc hv).1.ext hx, (h8 j c v hc hv).2.ext hx⟩⟩
      simp only [Imm.ext]
      rw [if_neg (by omega)]
      exact h6 o
    | loop r es =>
      obtain ⟨bk, h2, h3, h4, h6, h7, h8⟩ := h1
      have hlt := heap_lt h3
      refine ⟨bk, h2, (heap_alloc_lt hlt).trans h3, h4, fun o => ?_, h7, fun j c v hc hv => (h8 j c v hc hv).ext hx⟩
      simp only [Imm.ext]
      rw [if_neg (by omega)]
      exact h6 o
    | it itn its es =>
      obtain ⟨bk, itx, h2, h3, h4, h6, h7, h8⟩ := h1
      have hlt := heap_lt h3
      refine ⟨bk, itx, h2, (heap_alloc_lt hlt).trans h3, h4, fun o => ?_, h7, fun j c v hc hv => (h8 j c v hc hv).ext hx⟩
      simp only [Imm.ext]
      rw [if_neg (by omega)]
      exact h6 o
  own := fun bk s hh ee ho => by
    obtain ⟨us, E', fr', h2, he, h3, h4⟩ := hs.own bk s hh ee ho
    have hlt := heap_lt h2
    refine ⟨us, E', fr', (heap_alloc_lt hlt).trans h2, he, h3, fun o h5 => ?_⟩
    simp only [Imm.ext]
    rw [if_neg (by omega)]
    exact h4 o h5

theorem ρ_app {ρ : List Nat} {n id bk : Nat} (h : ρ[id]? = some bk) : (ρ ++ [n])[id]? = some bk := by
  have h1 := (List.getElem?_eq_some_iff.1 h).1
  rw [List.getElem?_append_left h1]
  exact h

theorem ρ_app_cases {ρ : List Nat} {n id bk : Nat} (h : (ρ ++ [n])[id]? = some bk) : ρ[id]? = some bk ∨ (id = ρ.length ∧ bk = n) := by
  rcases Nat.lt_or_ge id ρ.length with h1 | h1
  · rw [List.getElem?_append_left h1] at h
    exact .inl h
  · rw [List.getElem?_append_right h1] at h
    rcases Nat.eq_or_lt_of_le h1 with h2 | h2
    · subst h2
      simp at h
      exact .inr ⟨rfl, h.symm⟩
    · rw [List.getElem?_eq_none (by simp; omega)] at h
      cases h

theorem Ext.alloc_obj {g : Gh} {σ : AState} {w : World} (hs : Sim g σ w) (o : Obj) : Ext g w { g with ρ := g.ρ ++ [w.heap.size] } (w.alloc o) where
  os := rfl
  tape := rfl
  output := rfl
  size := by simp
  S := fun _ _ _ h => h
  ρ := fun _ _ h => ρ_app h
  keep := fun bk hb _ _ => ⟨heap_alloc_lt hb, fun o => rfl⟩
  newρ := fun id bk h => by
    rcases ρ_app_cases h with h1 | ⟨_, h1⟩
    · exact .inr ⟨id, h1⟩
    · exact .inl (by omega)
  newow := fun _ _ h => .inr (by rw [h]; simp)

/-- A new object. -/
theorem Sim.alloc_obj {g : Gh} {σ : AState} {w : World} (hs : Sim g σ w) (cs : List AV) (vs : Array Value) (E : TypeId) (hl : vs.size = cs.length)
    (hr : ∀ (j : Nat) (c : AV) (v : Value), cs[j]? = some c → vs[j]? = some v → R g.S (g.ρ ++ [w.heap.size]) c v ∧ OwnOK g (.o σ.length j) c v) :
    Sim { g with ρ := g.ρ ++ [w.heap.size] } (σ ++ [.cells cs]) (w.alloc (.cells vs E)) where
  imm := fun bk o v h => by
    have h1 := hs.imm bk o v h
    have h2 := heap_alloc_lt (o := .cells vs E) (hs.S_lt h)
    simp only [World.cell?] at *
    rw [h2]
    exact h1
  len := by simp [hs.len]
  inj := fun i j bk h1 h2 => by
    rcases ρ_app_cases h1 with h1 | ⟨h1, h1'⟩ <;> rcases ρ_app_cases h2 with h2 | ⟨h2, h2'⟩
    · exact hs.inj i j bk h1 h2
    · have := hs.ρ_lt h1; omega
    · have := hs.ρ_lt h2; omega
    · omega
  obj := fun id o ho => by
    have hx := Ext.alloc_obj hs (.cells vs E)
    rcases Nat.lt_or_ge id σ.length with hlt | hge
    · rw [List.getElem?_append_left hlt] at ho
      have h1 := hs.obj id o ho
      cases o with
      | cells cs =>
        obtain ⟨bk, us, E', fr', h2, h3, h4, h5, h6, h7, h8⟩ := h1
        exact ⟨bk, us, E', fr', ρ_app h2, (heap_alloc_lt (heap_lt h3)).trans h3, h4, h5, h6, h7, fun j c v hc hv => ⟨(h8 j c v hc hv).1.ext hx, (h8 j c v hc hv).2⟩⟩
      | map es =>
        obtain ⟨bk, ms, clock, h2, h3, h4, h6, h7, h8⟩ := h1
        exact ⟨bk, ms, clock, ρ_app h2, (heap_alloc_lt (heap_lt h3)).trans h3, h4, h6, h7, fun j c v hc hv => ⟨(h8 j c v hc hv).1.ext hx, (h8 j c v hc hv).2.ext hx⟩⟩
      | loop r es =>
        obtain ⟨bk, h2, h3, h4, h6, h7, h8⟩ := h1
        exact ⟨bk, ρ_app h2, (heap_alloc_lt (heap_lt h3)).trans h3, h4, h6, h7, fun j c v hc hv => (h8 j c v hc hv).ext hx⟩
      | it itn its es =>
        obtain ⟨bk, itx, h2, h3, h4, h6, h7, h8⟩ := h1
        exact ⟨bk, itx, ρ_app h2, (heap_alloc_lt (heap_lt h3)).trans h3, h4, h6, h7, fun j c v hc hv => (h8 j c v hc hv).ext hx⟩
    · rw [List.getElem?_append_right hge] at ho
      rcases Nat.eq_or_lt_of_le hge with h2 | h2
      · subst h2
        simp at ho
        subst ho
        refine ⟨w.heap.size, vs, E, (0, 0), ?_, heap_alloc_new w _, hl, fun o _ _ h => by simp at h, fun o => hs.S_new (Nat.le_refl _) o, ?_, fun j c v hc hv => hr j c v hc hv⟩
        · show (g.ρ ++ [w.heap.size])[σ.length]? = _
          rw [← hs.len]
          simp
        · cases e : g.ow w.heap.size with
          | none => rfl
          | some x => have := hs.ow_lt e; omega
      · rw [List.getElem?_eq_none (by simp; omega)] at ho
        cases ho
  own := fun bk s hh ee ho => by
    obtain ⟨us, E', fr', h2, h3⟩ := hs.own bk s hh ee ho
    exact ⟨us, E', fr', (heap_alloc_lt (heap_lt h2)).trans h2, h3⟩

theorem heap_setCell_ne {w : World} {a : Addr} {u : Value} {k : Nat} (h : k ≠ a.block) : (w.setCell a u).heap[k]? = w.heap[k]? := Below.heap_setCell w a u k h

theorem heap_setCell_eq {w : World} {bk off : Nat} {u : Value} {vs : Array Value} {E : TypeId} {fr : Nat × Nat} (h : w.heap[bk]? = some (.cells vs E fr)) :
    (w.setCell ⟨bk, off, none⟩ u).heap[bk]? = some (.cells (vs.setIfInBounds off u) E fr) := by
  simp [World.setCell, Array.getElem?_modify, h]

theorem size_setCell (w : World) (a : Addr) (u : Value) : (w.setCell a u).heap.size = w.heap.size := by simp [World.setCell]

theorem Ext.setCell {g : Gh} {σ : AState} {w : World} {id bk off : Nat} {u : Value} (hb : g.ρ[id]? = some bk) : Ext g w g (w.setCell ⟨bk, off, none⟩ u) where
  os := rfl
  tape := rfl
  output := rfl
  size := Nat.le_of_eq (size_setCell _ _ _).symm
  S := fun _ _ _ h => h
  ρ := fun _ _ h => h
  keep := fun k _ hk _ => ⟨heap_setCell_ne (fun e => hk id (by rw [e]; exact hb)), fun _ => rfl⟩
  newρ := fun id _ h => .inr ⟨id, h⟩
  newow := fun _ _ h => .inr (by rw [h]; simp)

/-- A store into a cell of an object. -/
theorem Sim.setCell {g : Gh} {σ : AState} {w : World} (hs : Sim g σ w) {id bk off : Nat} {cs : List AV} {c : AV} {u : Value} (ho : σ[id]? = some (.cells cs)) (hb : g.ρ[id]? = some bk)
    (hr : R g.S g.ρ c u) (hown : OwnOK g (.o id off) c u) : Sim g (σ.set id (.cells (cs.set off c))) (w.setCell ⟨bk, off, none⟩ u) := by
  have h1 := hs.obj id _ ho
  obtain ⟨b1, us, E, fr, h2, h3, h4, h5, h6, h7, h8⟩ := h1
  rw [hb] at h2
  cases h2
  refine { imm := ?_, len := ?_, inj := hs.inj, obj := ?_, own := ?_ }
  · intro b o v h
    have hne : b ≠ bk := fun e => by rw [e, h6] at h; cases h
    have hc := hs.imm b o v h
    simp only [World.cell?] at *
    rw [heap_setCell_ne (a := ⟨bk, off, none⟩) hne]
    exact hc
  · simp [hs.len]
  · intro j o hj
    by_cases e : id = j
    · subst e
      have hlt : id < σ.length := (List.getElem?_eq_some_iff.1 ho).1
      simp [List.getElem?_set, hlt] at hj
      subst hj
      refine ⟨bk, us.setIfInBounds off u, E, fr, hb, heap_setCell_eq h3, by simp [h4], fun o a b => h5 o a (by simpa using b), h6, h7, fun j c' v' hc hv => ?_⟩
      by_cases e2 : off = j
      · subst e2
        by_cases hlt2 : off < cs.length
        · simp [List.getElem?_set, hlt2] at hc
          simp [Array.getElem?_setIfInBounds, h4, hlt2] at hv
          subst hc
          subst hv
          exact ⟨hr, hown⟩
        · rw [List.getElem?_eq_none (by simp; omega)] at hc
          cases hc
      · have e3 : (cs.set off c)[j]? = cs[j]? := by simp [List.getElem?_set, e2]
        have e4 : (us.setIfInBounds off u)[j]? = us[j]? := by simp [Array.getElem?_setIfInBounds, e2]
        rw [e3] at hc
        rw [e4] at hv
        exact h8 j c' v' hc hv
    · have e1 : (σ.set id (.cells (cs.set off c)))[j]? = σ[j]? := by simp [List.getElem?_set, e]
      rw [e1] at hj
      have h1 := hs.obj j o hj
      cases o with
      | cells cs' =>
        obtain ⟨b', us', E', fr', k2, k3, k4⟩ := h1
        have hne : b' ≠ bk := fun eb => e (hs.inj id j bk hb (eb ▸ k2))
        exact ⟨b', us', E', fr', k2, (heap_setCell_ne (a := ⟨bk, off, none⟩) hne).trans k3, k4⟩
      | map es =>
        obtain ⟨b', ms, clock, k2, k3, k4⟩ := h1
        have hne : b' ≠ bk := fun eb => e (hs.inj id j bk hb (eb ▸ k2))
        exact ⟨b', ms, clock, k2, (heap_setCell_ne (a := ⟨bk, off, none⟩) hne).trans k3, k4⟩
      | loop r es =>
        obtain ⟨b', k2, k3, k4⟩ := h1
        have hne : b' ≠ bk := fun eb => e (hs.inj id j bk hb (eb ▸ k2))
        exact ⟨b', k2, (heap_setCell_ne (a := ⟨bk, off, none⟩) hne).trans k3, k4⟩
      | it itn its es =>
        obtain ⟨b', itx, k2, k3, k4⟩ := h1
        have hne : b' ≠ bk := fun eb => e (hs.inj id j bk hb (eb ▸ k2))
        exact ⟨b', itx, k2, (heap_setCell_ne (a := ⟨bk, off, none⟩) hne).trans k3, k4⟩
  · intro b s hh ee hw
    obtain ⟨us', E', fr', k2, k3, k4⟩ := hs.own b s hh ee hw
    have hne : b ≠ bk := fun eb => by rw [eb, h7] at hw; cases hw
    exact ⟨us', E', fr', (heap_setCell_ne (a := ⟨bk, off, none⟩) hne).trans k2, k3, k4⟩

/-- Who owns what is told anew. -/
theorem Sim.re_own {g : Gh} {σ : AState} {w : World} (hs : Sim g σ w) (f : Nat → Option (Slot × Nat × Nat)) (h1 : ∀ bk x, f bk = some x → ∃ s, g.ow bk = some (s, x.2))
    (h2 : ∀ (bk id j : Nat) (h : Nat × Nat), g.ow bk = some (.o id j, h) → f bk = some (.o id j, h)) : Sim { g with ow := f } σ w where
  imm := hs.imm
  len := hs.len
  inj := hs.inj
  obj := fun id o ho => by
    have k := hs.obj id o ho
    have hn : ∀ bk, g.ow bk = none → f bk = none := fun bk e => by
      cases e1 : f bk with
      | none => rfl
      | some x => obtain ⟨s, h3⟩ := h1 bk x e1; rw [e] at h3; cases h3
    cases o with
    | cells cs =>
      obtain ⟨bk, us, E', fr', k2, k3, k4, k5, k6, k7, k8⟩ := k
      exact ⟨bk, us, E', fr', k2, k3, k4, k5, k6, hn bk k7, fun j c v hc hv => ⟨(k8 j c v hc hv).1, (k8 j c v hc hv).2.mono fun b h e => h2 b id j h e⟩⟩
    | map es =>
      obtain ⟨bk, ms, clock, k2, k3, k4, k6, k7, k8⟩ := k
      exact ⟨bk, ms, clock, k2, k3, k4, k6, hn bk k7, k8⟩
    | loop r es =>
      obtain ⟨bk, k2, k3, k4, k6, k7, k8⟩ := k
      exact ⟨bk, k2, k3, k4, k6, hn bk k7, k8⟩
    | it itn its es =>
      obtain ⟨bk, itx, k2, k3, k4, k6, k7, k8⟩ := k
      exact ⟨bk, itx, k2, k3, k4, k6, hn bk k7, k8⟩
  own := fun bk s hh ee ho => by
    obtain ⟨s', h3⟩ := h1 bk (s, hh, ee) ho
    exact hs.own bk s' hh ee h3

end Go.Proofs.Ytoofpdmdgofdcaa.E

namespace Go.Proofs.Ytoofpdmdgofdcaa.E
open Go Go.RowKit
set_option linter.unusedVariables false
set_option linter.unusedSimpArgs false

variable {P : Program}

theorem run_und {t : TypeId} {d : TypeDesc} (h : P.underlying t = some d) (w : World) : (underlying t).run P w = .ok d w := run_underlying h w
theorem run_ti {t : TypeId} {i : TypeInfo} (h : P.info? t = some i) (w : World) : (typeInfo t).run P w = .ok i w := by simp [typeInfo, program, Sem.run, h]
theorem run_size {t : TypeId} {n : Nat} (h : (P.info? t).map (·.size) = some n) (w : World) : (sizeOf t).run P w = .ok n w := by
  cases e : P.info? t with
  | none => rw [e] at h; cases h
  | some i => rw [e] at h; cases h; simp [sizeOf, run_ti e]

def aggT : TypeDesc → Bool
  | .struct _ | .array _ _ => true
  | _ => false

theorem run_agg {t : TypeId} {d : TypeDesc} (h : P.underlying t = some d) (w : World) : (isAgg t).run P w = .ok (aggT d) w := by
  simp only [isAgg, Sem.run_bind, run_und h, Result.andThen_ok]
  cases d <;> rfl

def tsize (P : Program) (t : TypeId) : Option Nat := (P.info? t).map (·.size)
def tbytes (P : Program) (t : TypeId) : Option Nat := (P.info? t).map (·.bytes)

def inRb : IntKind → Int → Bool
  | .i8, n => decide (-128 ≤ n) && decide (n ≤ 127)
  | .i16, n => decide (-32768 ≤ n) && decide (n ≤ 32767)
  | .i32, n => decide (-2147483648 ≤ n) && decide (n ≤ 2147483647)
  | .i64, n => decide (-9223372036854775808 ≤ n) && decide (n ≤ 9223372036854775807)
  | .u8, n => decide (0 ≤ n) && decide (n ≤ 255)
  | .u16, n => decide (0 ≤ n) && decide (n ≤ 65535)
  | .u32, n => decide (0 ≤ n) && decide (n ≤ 4294967295)
  | .u64, n => decide (0 ≤ n) && decide (n ≤ 18446744073709551615)

/-- A constant. -/
def cst0 : Value → AV
  | .bool x => .b x
  | .int k n => if inRb k n then .i k n else .u
  | .string s => if s.data.toList.length ≤ 1152921504606846976 then .s s.data.toList else .u
  | .pointer none => .nilp
  | .slice none 0 0 => .sl .nil 0 []
  | .map none => .nilmap
  | .nilFunc => .nilfn
  | .nilIface => .nilif
  | .func (.func f) ⟨[]⟩ ⟨[]⟩ => .fn f []
  | .tuple ⟨[]⟩ => .tup []
  | _ => .u

def cst : Value → AV
  | .agg vs => .agg (vs.toList.map cst0)
  | .iface t v => .ifc t (cst0 v)
  | v => cst0 v

def tzero (P : Program) (t : TypeId) : Option (List AV) := (P.info? t).bind fun i => i.zero.map fun z => z.cells.toList.map cst0

theorem inR_holds {k : IntKind} {n : Int} (h : inRb k n = true) : inR k n := by
  unfold inR
  cases k <;> simp [inRb] at h <;> simp [IntKind.min, IntKind.max, IntKind.signed, IntKind.bits] <;> omega

theorem inR_wrap (k : IntKind) (n : Int) : inR k (k.wrap n) := by
  unfold inR
  cases k <;> simp [IntKind.wrap, IntKind.min, IntKind.max, IntKind.signed, IntKind.bits] <;> (try split) <;> omega

theorem R.cst0 (S : Imm) (ρ : List Nat) (v : Value) : R S ρ (cst0 v) v := by
  unfold E.cst0
  split
  · exact .b _
  · split
    · rename_i h; exact .i _ _ (inR_holds h)
    · exact .u _
  · split
    · rename_i s h
      have : s = ⟨s.data.toList.toArray⟩ := by cases s; rfl
      rw [this]
      exact .s _ h
    · exact .u _
  · exact .nilp
  · exact .sl0 _
  · exact .nilmap
  · exact .nilfn
  · exact .nilif
  · exact .fn _ [] #[] rfl (fun j c v h => by simp at h)
  · exact .tup [] #[] rfl (fun j c v h => by simp at h)
  · exact .u _

theorem R.cst (S : Imm) (ρ : List Nat) (v : Value) : R S ρ (cst v) v := by
  unfold E.cst
  split
  · rename_i vs
    refine .agg _ _ (by simp) fun j c v h1 h2 => ?_
    simp only [List.getElem?_map, Array.getElem?_toList, h2, Option.map_some, Option.some.injEq] at h1
    subst h1
    exact R.cst0 S ρ v
  · exact .ifc _ _ _ (R.cst0 S ρ _)
  · exact R.cst0 S ρ _

/-- An operand. 'G': what is known of the package variables. -/
def ev (G : Nat → AV) (env : AEnv) : Operand → AV
  | .tmp t => env.getD t .u
  | .const v => cst v
  | .global g => G g
  | .func f => .fn f []

def GOK (G : Nat → AV) (g : Gh) : Prop := ∀ n, R g.S g.ρ (G n) (.pointer (some ⟨n, 0, none⟩))

theorem R.ev {G : Nat → AV} {g : Gh} {env : AEnv} {a : Act} (hG : GOK G g) (h : EnvOK g env a.tmps) (x : Operand) : R g.S g.ρ (ev G env x) (a.eval x) := by
  cases x with
  | tmp t => exact h.get t
  | const v => exact R.cst _ _ v
  | global n => exact hG n
  | func f => exact .fn f [] #[] rfl (fun j c v h => by simp at h)

/-- A value that bears no room of its own, in whatever slot. -/
def Pl (c : AV) : Prop := ∀ (g : Gh) (i : Nat) (v : Value), TopOwn g i c v

theorem Pl.pl (c : AV) : Pl c.pl := fun g i v => topOwn_pl g i c v

theorem pl_mk {c : AV} (h1 : ∀ z n cs, c ≠ .sl (.yes z) n cs) (h2 : ∀ cs, c ≠ .tup cs) : Pl c := fun g i v =>
  topOwn_of (by unfold OwnOK; split <;> first | exact absurd rfl (h1 _ _ _) | trivial) h2

/-! ### Two operands -/
def aint (op : BinOp) (k : IntKind) (x : Int) (k' : IntKind) (y : Int) (K : AV → Prop) : Prop :=
  match op with
  | .shl => 0 ≤ y ∧ K (.i k (k.wrap (x * 2 ^ (min y.toNat k.bits))))
  | .shr => 0 ≤ y ∧ K (.i k (x.fdiv (2 ^ (min y.toNat k.bits))))
  | .add => k = k' ∧ K (.i k (k.wrap (x + y)))
  | .sub => k = k' ∧ K (.i k (k.wrap (x - y)))
  | .mul => k = k' ∧ K (.i k (k.wrap (x * y)))
  | .quo => k = k' ∧ y ≠ 0 ∧ K (.i k (k.wrap (x.tdiv y)))
  | .rem => k = k' ∧ y ≠ 0 ∧ K (.i k (x.tmod y))
  | .and => k = k' ∧ K (.i k (k.wrap (BitVec.ofInt k.bits x &&& BitVec.ofInt k.bits y).toNat))
  | .or => k = k' ∧ K (.i k (k.wrap (BitVec.ofInt k.bits x ||| BitVec.ofInt k.bits y).toNat))
  | .xor => k = k' ∧ K (.i k (k.wrap (BitVec.ofInt k.bits x ^^^ BitVec.ofInt k.bits y).toNat))
  | .andNot => k = k' ∧ K (.i k (k.wrap (BitVec.ofInt k.bits x &&& ~~~BitVec.ofInt k.bits y).toNat))
  | .eql => k = k' ∧ K (.b (x == y))
  | .neq => k = k' ∧ K (.b (x != y))
  | .lss => k = k' ∧ K (.b (decide (x < y)))
  | .leq => k = k' ∧ K (.b (decide (x ≤ y)))
  | .gtr => k = k' ∧ K (.b (decide (y < x)))
  | .geq => k = k' ∧ K (.b (decide (y ≤ x)))

def astr (op : BinOp) (x y : List UInt8) (K : AV → Prop) : Prop :=
  match op with
  | .add => x.length + y.length ≤ 1152921504606846976 ∧ K (.s (x ++ y))
  | .eql => K (.b (x == y))
  | .neq => K (.b (!(x == y)))
  | .lss => K (.b (Op.bytesLess x y))
  | .leq => K (.b (Op.bytesLess x y || x == y))
  | .gtr => K (.b (!(Op.bytesLess x y || x == y)))
  | .geq => K (.b (!Op.bytesLess x y))
  | _ => False

/-- Is it the same? 'none': that is not told. -/
def aeq : AV → AV → Option Bool
  | .b x, .b y => some (x == y)
  | .nilp, .nilp => some true
  | .pm _ _, .nilp | .nilp, .pm _ _ | .pi _ _, .nilp | .nilp, .pi _ _ => some false
  | .nilif, .ifc _ _ | .ifc _ _, .nilif => some false
  | .nilfn, .nilfn => some true
  | .fn _ _, .nilfn | .nilfn, .fn _ _ => some false
  | .nilmap, .nilmap => some true
  | .mp _, .nilmap | .nilmap, .mp _ => some false
  | _, _ => none

/-- The two types of what is compared to nil. -/
def eqT (P : Program) (t : TypeId) (x y : AV) : Bool :=
  match P.underlying t, x, y with
  | some .bool, .b _, .b _ => true
  | some (.pointer _), .nilp, .nilp | some (.pointer _), .pm _ _, .nilp | some (.pointer _), .nilp, .pm _ _ | some (.pointer _), .pi _ _, .nilp | some (.pointer _), .nilp, .pi _ _ => true
  | some (.interface _), .nilif, .ifc _ _ | some (.interface _), .ifc _ _, .nilif => true
  | some (.func _ _ _), .nilfn, .nilfn | some (.func _ _ _), .fn _ _, .nilfn | some (.func _ _ _), .nilfn, .fn _ _ => true
  | some (.map _ _), .nilmap, .nilmap | some (.map _ _), .mp _, .nilmap | some (.map _ _), .nilmap, .mp _ => true
  | _, _, _ => false

def optK {α : Type} (o : Option α) (K : α → Prop) : Prop := ∃ x, o = some x ∧ K x
theorem optK_some {α : Type} (x : α) (K : α → Prop) : optK (some x) K = K x := by simp [optK]
theorem optK_none {α : Type} (K : α → Prop) : optK none K = False := by simp [optK]

def notK (K : AV → Prop) (x : Bool) : Prop := K (.b !x)
def isK (K : AV → Prop) (x : Bool) : Prop := K (.b x)

/-- Fields of one cell each, all compared. -/
def flatF : Nat → List Field → Bool
  | _, [] => true
  | k, f :: fs => f.name != "_" && f.offset == k && flatF (k + 1) fs

def flatOK (P : Program) (t : TypeId) (fs : Array Field) : Bool := !P.stoodInHeld t && !P.eqGuardType P.depth t && flatF 0 fs.toList

def andK (x : Bool) (o : Option Bool) : Option Bool := o.map fun y => x && y

/-- Field by field. -/
def eqFA (P : Program) : List Field → List AV → List AV → Option Bool
  | [], [], [] => some true
  | f :: fs, c :: cs, d :: ds => match P.underlying f.type with
    | some (.int _) => match c, d with
      | .i k x, .i k' y => if k = k' then andK (x == y) (eqFA P fs cs ds) else none
      | _, _ => none
    | some .string => match c, d with
      | .s x, .s y => andK (x == y) (eqFA P fs cs ds)
      | _, _ => none
    | some .bool => match c, d with
      | .b x, .b y => andK (x == y) (eqFA P fs cs ds)
      | _, _ => none
    | _ => none
  | _, _, _ => none

def aaggEq (P : Program) (op : BinOp) (t : TypeId) (cs ds : List AV) (K : AV → Prop) : Prop :=
  match P.underlying t with
  | some (.struct fs) => match op with
    | .eql => flatOK P t fs = true ∧ optK (eqFA P fs.toList cs ds) (isK K)
    | .neq => flatOK P t fs = true ∧ optK (eqFA P fs.toList cs ds) (notK K)
    | _ => False
  | _ => False

def abin (P : Program) (op : BinOp) (t : TypeId) (x y : AV) (K : AV → Prop) : Prop :=
  match x, y with
  | .i k x, .i k' y => aint op k x k' y K
  | .s x, .s y => astr op x y K
  | .agg cs, .agg ds => aaggEq P op t cs ds K
  | x, y => match op with
    | .eql => eqT P t x y = true ∧ optK (aeq x y) (isK K)
    | .neq => eqT P t x y = true ∧ optK (aeq x y) (notK K)
    | _ => False

/-- What an operation that leaves the world alone gives. -/
def Gives (P : Program) (g : Gh) (w : World) (K : AV → Prop) (s : Sem Value) : Prop := ∃ c v, s.run P w = .ok v w ∧ R g.S g.ρ c v ∧ Pl c ∧ K c

theorem gives_int {g : Gh} {w : World} {K : AV → Prop} {s : Sem Value} {k : IntKind} {n : Int} (hs : s.run P w = .ok (.int k n) w) (hn : inR k n) (h : K (.i k n)) : Gives P g w K s :=
  ⟨.i k n, .int k n, hs, .i k n hn, pl_mk (by simp) (by simp), h⟩

theorem gives_bool {g : Gh} {w : World} {K : AV → Prop} {s : Sem Value} {x : Bool} (hs : s.run P w = .ok (.bool x) w) (h : K (.b x)) : Gives P g w K s :=
  ⟨.b x, .bool x, hs, .b x, pl_mk (by simp) (by simp), h⟩

theorem gives_str {g : Gh} {w : World} {K : AV → Prop} {s : Sem Value} {l : List UInt8} (hl : l.length ≤ 2 ^ 60) (hs : s.run P w = .ok (.string ⟨l.toArray⟩) w) (h : K (.s l)) : Gives P g w K s :=
  ⟨.s l, .string ⟨l.toArray⟩, hs, .s l hl, pl_mk (by simp) (by simp), h⟩

theorem inR_tmod {k : IntKind} {x y : Int} (hx : inR k x) : inR k (x.tmod y) := by
  have h2 : 0 ≤ x → 0 ≤ x.tmod y := fun h => Int.tmod_nonneg y h
  have h4 : x ≤ 0 → x.tmod y ≤ 0 := fun h => by
    have h5 := Int.tmod_nonneg (a := -x) y (by omega)
    rw [Int.neg_tmod] at h5
    omega
  have h3 : (x.tmod y).natAbs ≤ x.natAbs := by rw [Int.natAbs_tmod]; exact Nat.mod_le _ _
  unfold inR at *
  cases k <;> simp [IntKind.min, IntKind.max, IntKind.signed, IntKind.bits] at hx ⊢ <;> by_cases h : 0 ≤ x <;> (first | (have := h2 h; omega) | (have := h4 (by omega); omega))

theorem inR_fdiv {k : IntKind} {x : Int} (n : Nat) (hx : inR k x) : inR k (x.fdiv (2 ^ n)) := by
  have hp : (0 : Int) < 2 ^ n := Int.pow_pos (by omega)
  rw [Int.fdiv_eq_ediv_of_nonneg _ (Int.le_of_lt hp)]
  have h1 : 0 ≤ x → 0 ≤ x / 2 ^ n ∧ x / 2 ^ n ≤ x := fun h => ⟨Int.ediv_nonneg h (Int.le_of_lt hp), Int.ediv_le_self _ h⟩
  have h2 : x < 0 → x ≤ x / 2 ^ n ∧ x / 2 ^ n < 0 := fun h => by
    refine ⟨?_, Int.ediv_neg_of_neg_of_pos h hp⟩
    rw [Int.le_ediv_iff_mul_le hp]
    have h3 : (1 : Int) ≤ 2 ^ n := hp
    have h4 : x * 2 ^ n ≤ x * 1 := Int.mul_le_mul_of_nonpos_left (Int.le_of_lt h) h3
    omega
  unfold inR at *
  by_cases h : 0 ≤ x
  · have := h1 h
    cases k <;> simp [IntKind.min, IntKind.max, IntKind.signed, IntKind.bits] at hx ⊢ <;> omega
  · have := h2 (by omega)
    cases k <;> simp [IntKind.min, IntKind.max, IntKind.signed, IntKind.bits] at hx ⊢ <;> omega

theorem bytes_toList (l : List UInt8) : (⟨l.toArray⟩ : ByteArray).toList = l := by
  simp

end Go.Proofs.Ytoofpdmdgofdcaa.E

namespace Go.Proofs.Ytoofpdmdgofdcaa.E
open Go Go.RowKit
set_option linter.unusedVariables false
set_option linter.unusedSimpArgs false

variable {P : Program}

theorem guard_int (op : BinOp) (t : TypeId) (ox oy : Operand) (k k' : IntKind) (x y : Int) (w : World) : (eqGuard op t ox oy (.int k x) (.int k' y)).run P w = .ok () w := by
  unfold eqGuard
  cases op <;> rfl

theorem guard_str (op : BinOp) (t : TypeId) (ox oy : Operand) (x y : ByteArray) (w : World) : (eqGuard op t ox oy (.string x) (.string y)).run P w = .ok () w := by
  unfold eqGuard
  cases op <;> rfl

theorem aint_sound {g : Gh} {w : World} {K : AV → Prop} {op : BinOp} {t : TypeId} {k k' : IntKind} {x y : Int} (hx : inR k x) (hy : inR k' y) (h : aint op k x k' y K) :
    Gives P g w K (binOp op t (.int k x) (.int k' y)) := by
  cases op <;> simp only [aint] at h
  case shl =>
    refine gives_int ?_ (inR_wrap _ _) h.2
    simp [binOp, Op.shift, show ¬ y < 0 by omega]
  case shr =>
    refine gives_int ?_ (inR_fdiv _ hx) h.2
    simp [binOp, Op.shift, show ¬ y < 0 by omega]
  case quo =>
    obtain ⟨rfl, h1, h2⟩ := h
    refine gives_int ?_ (inR_wrap _ _) h2
    simp [binOp, Op.intDiv, h1]
  case rem =>
    obtain ⟨rfl, h1, h2⟩ := h
    refine gives_int ?_ (inR_tmod hx) h2
    simp [binOp, Op.intDiv, h1]
  all_goals obtain ⟨rfl, h2⟩ := h
  all_goals first
    | (refine gives_int ?_ (inR_wrap _ _) h2; simp [binOp, Op.intArith, Op.intBits]; done)
    | (refine gives_bool ?_ h2; simp [binOp, Op.intCmp]; done)

theorem astr_sound {g : Gh} {w : World} {K : AV → Prop} {op : BinOp} {t : TypeId} {x y : List UInt8} (hx : x.length ≤ 2 ^ 60) (h : astr op x y K) :
    Gives P g w K (binOp op t (.string ⟨x.toArray⟩) (.string ⟨y.toArray⟩)) := by
  cases op <;> simp only [astr] at h <;> try exact h.elim
  case add =>
    obtain ⟨h1, h2⟩ := h
    refine gives_str (by simp; omega) ?_ h2
    have e : ((⟨x.toArray⟩ : ByteArray) ++ ⟨y.toArray⟩) = ⟨(x ++ y).toArray⟩ := by
      apply ByteArray.ext
      simp
    have hb : ¬ ((((⟨x.toArray⟩ : ByteArray).size + (⟨y.toArray⟩ : ByteArray).size : Nat) : Int) > IntKind.i64.max) := by
      have e1 : (⟨x.toArray⟩ : ByteArray).size = x.length := by simp [ByteArray.size]
      have e2 : (⟨y.toArray⟩ : ByteArray).size = y.length := by simp [ByteArray.size]
      rw [e1, e2, IntKind.max_i64]
      omega
    simp only [binOp, Op.stringOp]
    rw [if_neg hb, e]
    rfl
  all_goals (refine gives_bool ?_ h; simp [binOp, Op.stringOp])

/-- What '==' needs: the guard lets it by, it answers, and it is no operation on numbers or strings. -/
def EqOK (P : Program) (w : World) (t : TypeId) (vx vy : Value) (b : Bool) : Prop :=
  (∀ ox oy, (eqGuard .eql t ox oy vx vy).run P w = .ok () w) ∧ (∀ ox oy, (eqGuard .neq t ox oy vx vy).run P w = .ok () w) ∧ (Op.equal t vx vy).run P w = .ok b w ∧
    binOp .eql t vx vy = (do pure (.bool (← Op.equal t vx vy))) ∧ binOp .neq t vx vy = (do pure (.bool (!(← Op.equal t vx vy))))

theorem equal_eq (t : TypeId) (x y : Value) : Op.equal t x y = Op.equalIn (9999 + 1) t x y := rfl

theorem eqOK_bool {w : World} {t : TypeId} (hu : P.underlying t = some .bool) (a b : Bool) : EqOK P w t (.bool a) (.bool b) (a == b) :=
  ⟨fun _ _ => rfl, fun _ _ => rfl, by rw [equal_eq]; generalize (9999 : Nat) = d; simp only [Op.equalIn, Sem.run_bind, run_und hu, Result.andThen_ok]; rfl, rfl, rfl⟩

theorem eqOK_pp {w : World} {t e : TypeId} (hu : P.underlying t = some (.pointer e)) : EqOK P w t (.pointer none) (.pointer none) true :=
  ⟨fun _ _ => rfl, fun _ _ => rfl, by rw [equal_eq]; generalize (9999 : Nat) = d; simp only [Op.equalIn, Sem.run_bind, run_und hu, Result.andThen_ok]; rfl, rfl, rfl⟩
theorem eqOK_pn {w : World} {t e : TypeId} (a : Addr) (hu : P.underlying t = some (.pointer e)) : EqOK P w t (.pointer (some a)) (.pointer none) false :=
  ⟨fun _ _ => rfl, fun _ _ => rfl, by rw [equal_eq]; generalize (9999 : Nat) = d; simp only [Op.equalIn, Sem.run_bind, run_und hu, Result.andThen_ok]; rfl, rfl, rfl⟩
theorem eqOK_np {w : World} {t e : TypeId} (a : Addr) (hu : P.underlying t = some (.pointer e)) : EqOK P w t (.pointer none) (.pointer (some a)) false :=
  ⟨fun _ _ => rfl, fun _ _ => rfl, by rw [equal_eq]; generalize (9999 : Nat) = d; simp only [Op.equalIn, Sem.run_bind, run_und hu, Result.andThen_ok]; rfl, rfl, rfl⟩
theorem eqOK_in {w : World} {t u : TypeId} (v : Value) {ms : Array (String × TypeId)} (hu : P.underlying t = some (.interface ms)) : EqOK P w t (.iface u v) .nilIface false :=
  ⟨fun _ _ => rfl, fun _ _ => rfl, by rw [equal_eq]; generalize (9999 : Nat) = d; simp only [Op.equalIn, Sem.run_bind, run_und hu, Result.andThen_ok]; rfl, rfl, rfl⟩
theorem eqOK_ni {w : World} {t u : TypeId} (v : Value) {ms : Array (String × TypeId)} (hu : P.underlying t = some (.interface ms)) : EqOK P w t .nilIface (.iface u v) false :=
  ⟨fun _ _ => rfl, fun _ _ => rfl, by rw [equal_eq]; generalize (9999 : Nat) = d; simp only [Op.equalIn, Sem.run_bind, run_und hu, Result.andThen_ok]; rfl, rfl, rfl⟩
theorem eqOK_ff {w : World} {t : TypeId} {ps rs : Array TypeId} {v : Bool} (hu : P.underlying t = some (.func ps rs v)) : EqOK P w t .nilFunc .nilFunc true :=
  ⟨fun _ _ => rfl, fun _ _ => rfl, by rw [equal_eq]; generalize (9999 : Nat) = d; simp only [Op.equalIn, Sem.run_bind, run_und hu, Result.andThen_ok]; rfl, rfl, rfl⟩
theorem eqOK_fn {w : World} {t : TypeId} {ps rs : Array TypeId} {v : Bool} (f : Fn) (a b : Array Value) (hu : P.underlying t = some (.func ps rs v)) : EqOK P w t (.func f a b) .nilFunc false :=
  ⟨fun _ _ => rfl, fun _ _ => rfl, by rw [equal_eq]; generalize (9999 : Nat) = d; simp only [Op.equalIn, Sem.run_bind, run_und hu, Result.andThen_ok]; rfl, rfl, rfl⟩
theorem eqOK_nf {w : World} {t : TypeId} {ps rs : Array TypeId} {v : Bool} (f : Fn) (a b : Array Value) (hu : P.underlying t = some (.func ps rs v)) : EqOK P w t .nilFunc (.func f a b) false :=
  ⟨fun _ _ => rfl, fun _ _ => rfl, by rw [equal_eq]; generalize (9999 : Nat) = d; simp only [Op.equalIn, Sem.run_bind, run_und hu, Result.andThen_ok]; rfl, rfl, rfl⟩
theorem eqOK_mm {w : World} {t k e : TypeId} (hu : P.underlying t = some (.map k e)) : EqOK P w t (.map none) (.map none) true :=
  ⟨fun _ _ => rfl, fun _ _ => rfl, by rw [equal_eq]; generalize (9999 : Nat) = d; simp only [Op.equalIn, Sem.run_bind, run_und hu, Result.andThen_ok]; rfl, rfl, rfl⟩
theorem eqOK_mn {w : World} {t k e : TypeId} (r : Nat) (hu : P.underlying t = some (.map k e)) : EqOK P w t (.map (some r)) (.map none) false :=
  ⟨fun _ _ => rfl, fun _ _ => rfl, by rw [equal_eq]; generalize (9999 : Nat) = d; simp only [Op.equalIn, Sem.run_bind, run_und hu, Result.andThen_ok]; rfl, rfl, rfl⟩
theorem eqOK_nm {w : World} {t k e : TypeId} (r : Nat) (hu : P.underlying t = some (.map k e)) : EqOK P w t (.map none) (.map (some r)) false :=
  ⟨fun _ _ => rfl, fun _ _ => rfl, by rw [equal_eq]; generalize (9999 : Nat) = d; simp only [Op.equalIn, Sem.run_bind, run_und hu, Result.andThen_ok]; rfl, rfl, rfl⟩

def isPtr : TypeDesc → Bool | .pointer _ => true | _ => false
theorem und_ptr {t : TypeId} {x y : AV} (h : eqT P t x y = true) (hn : x = .nilp ∨ y = .nilp) : ∃ e, P.underlying t = some (.pointer e) := by
  unfold eqT at h
  split at h <;> first | exact ⟨_, by assumption⟩ | (cases h; done) | (rcases hn with hn | hn <;> cases hn; done)
theorem und_if {t : TypeId} {x y : AV} (h : eqT P t x y = true) (hn : x = .nilif ∨ y = .nilif) : ∃ e, P.underlying t = some (.interface e) := by
  unfold eqT at h
  split at h <;> first | exact ⟨_, by assumption⟩ | (cases h; done) | (rcases hn with hn | hn <;> cases hn; done)
theorem und_fn {t : TypeId} {x y : AV} (h : eqT P t x y = true) (hn : x = .nilfn ∨ y = .nilfn) : ∃ a b c, P.underlying t = some (.func a b c) := by
  unfold eqT at h
  split at h <;> first | exact ⟨_, _, _, by assumption⟩ | (cases h; done) | (rcases hn with hn | hn <;> cases hn; done)
theorem und_map {t : TypeId} {x y : AV} (h : eqT P t x y = true) (hn : x = .nilmap ∨ y = .nilmap) : ∃ a b, P.underlying t = some (.map a b) := by
  unfold eqT at h
  split at h <;> first | exact ⟨_, _, by assumption⟩ | (cases h; done) | (rcases hn with hn | hn <;> cases hn; done)
theorem und_bool {t : TypeId} {x y : AV} (h : eqT P t x y = true) (hn : ∃ a, x = .b a) : P.underlying t = some .bool := by
  unfold eqT at h
  split at h <;> first | assumption | (cases h; done) | (obtain ⟨_, hn⟩ := hn; cases hn; done)

theorem aeq_sound {g : Gh} {w : World} {t : TypeId} {x y : AV} {vx vy : Value} {b : Bool} (hx : R g.S g.ρ x vx) (hy : R g.S g.ρ y vy) (ht : eqT P t x y = true) (h : aeq x y = some b) : EqOK P w t vx vy b := by
  unfold aeq at h
  split at h
  · cases hx; cases hy; cases h; exact eqOK_bool (und_bool ht ⟨_, rfl⟩) _ _
  · obtain ⟨e, hu⟩ := und_ptr ht (.inl rfl); cases hx; cases hy; cases h; exact eqOK_pp hu
  · obtain ⟨e, hu⟩ := und_ptr ht (.inr rfl); cases hx; cases hy; cases h; exact eqOK_pn _ hu
  · obtain ⟨e, hu⟩ := und_ptr ht (.inl rfl); cases hx; cases hy; cases h; exact eqOK_np _ hu
  · obtain ⟨e, hu⟩ := und_ptr ht (.inr rfl); cases hx; cases hy; cases h; exact eqOK_pn _ hu
  · obtain ⟨e, hu⟩ := und_ptr ht (.inl rfl); cases hx; cases hy; cases h; exact eqOK_np _ hu
  · obtain ⟨e, hu⟩ := und_if ht (.inl rfl); cases hx; cases hy; cases h; exact eqOK_ni _ hu
  · obtain ⟨e, hu⟩ := und_if ht (.inr rfl); cases hx; cases hy; cases h; exact eqOK_in _ hu
  · obtain ⟨_, _, _, hu⟩ := und_fn ht (.inl rfl); cases hx; cases hy; cases h; exact eqOK_ff hu
  · obtain ⟨_, _, _, hu⟩ := und_fn ht (.inr rfl); cases hx; cases hy; cases h; exact eqOK_fn _ _ _ hu
  · obtain ⟨_, _, _, hu⟩ := und_fn ht (.inl rfl); cases hx; cases hy; cases h; exact eqOK_nf _ _ _ hu
  · obtain ⟨_, _, hu⟩ := und_map ht (.inl rfl); cases hx; cases hy; cases h; exact eqOK_mm hu
  · obtain ⟨_, _, hu⟩ := und_map ht (.inr rfl); cases hx; cases hy; cases h; exact eqOK_mn _ hu
  · obtain ⟨_, _, hu⟩ := und_map ht (.inl rfl); cases hx; cases hy; cases h; exact eqOK_nm _ hu
  · cases h

theorem Gives.of_eq {g : Gh} {w : World} {K : AV → Prop} {s s' : Sem Value} (h : Gives P g w K s) (e : s'.run P w = s.run P w) : Gives P g w K s' := by
  obtain ⟨c, v, h1, h2⟩ := h
  exact ⟨c, v, e.trans h1, h2⟩

theorem run_part1 {t : TypeId} {d : TypeDesc} {vs : Array Value} {off : Nat} {v : Value} {w : World} (hu : P.underlying t = some d) (ha : aggT d = false) (hv : vs[off]? = some v) : (part t vs off).run P w = .ok v w := by
  simp [part, run_agg hu, ha, hv]

theorem eqF_step {d : Nat} {xs ys : Array Value} {f : Field} {fs : List Field} {u v : Value} {r s : Bool} {w : World} {td : TypeDesc} (hn : (f.name != "_") = true) (hu : P.underlying f.type = some td) (ha : aggT td = false) (hx : xs[f.offset]? = some u) (hy : ys[f.offset]? = some v)
    (he : (Op.equalIn d f.type u v).run P w = .ok r w) (hr : (Op.eqFields d xs ys fs).run P w = .ok s w) : (Op.eqFields d xs ys (f :: fs)).run P w = .ok (r && s) w := by
  have hn' : f.name ≠ "_" := by simpa using hn
  rw [Op.eqFields]
  simp only [if_pos hn', Sem.run_bind, run_part1 hu ha hx, run_part1 hu ha hy, he, Result.andThen_ok]
  cases r
  · simp
  · simpa using hr

theorem bytes_beq (x y : List UInt8) : ((⟨x.toArray⟩ : ByteArray) == ⟨y.toArray⟩) = (x == y) := by
  show (x.toArray == y.toArray) = (x == y)
  simp

theorem eqFA_sound {g : Gh} {w : World} {d : Nat} {xs ys : Array Value} : ∀ (fs : List Field) (cs ds : List AV) (k : Nat) (b : Bool), flatF k fs = true → eqFA P fs cs ds = some b →
    (∀ (j : Nat) (c : AV), cs[j]? = some c → ∃ v, xs[k + j]? = some v ∧ R g.S g.ρ c v) → (∀ (j : Nat) (c : AV), ds[j]? = some c → ∃ v, ys[k + j]? = some v ∧ R g.S g.ρ c v) → (Op.eqFields (d + 1) xs ys fs).run P w = .ok b w
  | [], [], [], k, b, _, h, _, _ => by simp [eqFA] at h; subst h; simp [Op.eqFields]
  | [], [], _ :: _, k, b, _, h, _, _ => by simp [eqFA] at h
  | [], _ :: _, _, k, b, _, h, _, _ => by simp [eqFA] at h
  | _ :: _, [], _, k, b, _, h, _, _ => by simp [eqFA] at h
  | _ :: _, _ :: _, [], k, b, _, h, _, _ => by simp [eqFA] at h
  | f :: fs, c :: cs, e :: ds, k, b, hf, h, hx, hy => by
    simp only [flatF, Bool.and_eq_true, beq_iff_eq] at hf
    obtain ⟨⟨hn, ho⟩, hf⟩ := hf
    obtain ⟨u, hu, hru⟩ := hx 0 c rfl
    obtain ⟨v, hv, hrv⟩ := hy 0 e rfl
    rw [Nat.add_zero, ← ho] at hu hv
    have hrec : ∀ b', eqFA P fs cs ds = some b' → (Op.eqFields (d + 1) xs ys fs).run P w = .ok b' w := fun b' hb' => eqFA_sound fs cs ds (k + 1) b' hf hb' (fun j c hc => by
      obtain ⟨v, h1, h2⟩ := hx (j + 1) c (by simpa using hc)
      exact ⟨v, by rw [show k + 1 + j = k + (j + 1) by omega]; exact h1, h2⟩) (fun j c hc => by
      obtain ⟨v, h1, h2⟩ := hy (j + 1) c (by simpa using hc)
      exact ⟨v, by rw [show k + 1 + j = k + (j + 1) by omega]; exact h1, h2⟩)
    simp only [eqFA] at h
    split at h <;> try (cases h; done)
    · rename_i kk hty
      split at h <;> try (cases h; done)
      split at h <;> try (cases h; done)
      rename_i hk
      subst hk
      simp only [andK, Option.map_eq_some_iff] at h
      obtain ⟨b', hb', rfl⟩ := h
      cases hru
      cases hrv
      refine eqF_step hn hty rfl hu hv ?_ (hrec b' hb')
      simp only [Op.equalIn, Sem.run_bind, run_und hty, Result.andThen_ok, if_true, Sem.run_pure]
    · rename_i hty
      split at h <;> try (cases h; done)
      simp only [andK, Option.map_eq_some_iff] at h
      obtain ⟨b', hb', rfl⟩ := h
      cases hru
      cases hrv
      refine eqF_step hn hty rfl hu hv ?_ (hrec b' hb')
      simp only [Op.equalIn, Sem.run_bind, run_und hty, Result.andThen_ok, Sem.run_pure]
      rw [bytes_beq]
    · rename_i hty
      split at h <;> try (cases h; done)
      simp only [andK, Option.map_eq_some_iff] at h
      obtain ⟨b', hb', rfl⟩ := h
      cases hru
      cases hrv
      refine eqF_step hn hty rfl hu hv ?_ (hrec b' hb')
      simp only [Op.equalIn, Sem.run_bind, run_und hty, Result.andThen_ok, Sem.run_pure]

theorem aaggEq_sound {g : Gh} {w : World} {t : TypeId} {cs ds : List AV} {vx vy : Value} {fs : Array Field} {b : Bool} (hx : R g.S g.ρ (.agg cs) vx) (hy : R g.S g.ρ (.agg ds) vy) (hu : P.underlying t = some (.struct fs)) (hf : flatOK P t fs = true) (h : eqFA P fs.toList cs ds = some b) : EqOK P w t vx vy b := by
  simp only [flatOK, Bool.and_eq_true, Bool.not_eq_true'] at hf
  obtain ⟨⟨h1, h2⟩, h3⟩ := hf
  cases hx with
  | agg _ xs hlx hRx =>
  cases hy with
  | agg _ ys hly hRy =>
  have hget : ∀ (cs : List AV) (xs : Array Value), xs.size = cs.length → (∀ (j : Nat) (c : AV) (v : Value), cs[j]? = some c → xs[j]? = some v → R g.S g.ρ c v) → ∀ (j : Nat) (c : AV), cs[j]? = some c → ∃ v, xs[0 + j]? = some v ∧ R g.S g.ρ c v := fun cs xs hl hR j c hc => by
    have hlt : j < xs.size := by rw [hl]; exact (List.getElem?_eq_some_iff.1 hc).1
    exact ⟨xs[j], by rw [Nat.zero_add]; exact Array.getElem?_eq_getElem hlt, hR j c _ hc (Array.getElem?_eq_getElem hlt)⟩
  have hg : ∀ (op : BinOp), (op = .eql ∨ op = .neq) → ∀ ox oy, (eqGuard op t ox oy (.agg xs) (.agg ys)).run P w = .ok () w := fun op hop ox oy => by
    rcases hop with rfl | rfl <;> simp [eqGuard, h2]
  refine ⟨hg _ (.inl rfl), hg _ (.inr rfl), ?_, rfl, rfl⟩
  rw [equal_eq]
  have hfo : P.fieldsOf t = fs := by simp [Program.fieldsOf, hu]
  rw [run_equalIn_struct (P := P) w 9999 t xs ys (by rw [hfo]; exact hu) h1, hfo]
  exact eqFA_sound (d := 9998) fs.toList cs ds 0 b h3 h (hget cs xs hlx hRx) (hget ds ys hly hRy)

theorem abin_sound {g : Gh} {w : World} {K : AV → Prop} {op : BinOp} {t : TypeId} {x y : AV} {vx vy : Value} {ox oy : Operand} (hx : R g.S g.ρ x vx) (hy : R g.S g.ρ y vy) (h : abin P op t x y K) :
    Gives P g w K (do eqGuard op t ox oy vx vy; binOp op t vx vy) := by
  unfold abin at h
  split at h
  · cases hx with
    | i k n hn => cases hy with
      | i k' n' hn' => exact (aint_sound (t := t) hn hn' h).of_eq (by simp [guard_int])
  · cases hx with
    | s l hl => cases hy with
      | s l' hl' => exact (astr_sound (t := t) hl h).of_eq (by simp [guard_str])
  · unfold aaggEq at h
    split at h <;> try exact h.elim
    rename_i fs hu
    cases op <;> simp only at h <;> try exact h.elim
    · obtain ⟨h1, b, h2, h3⟩ := h
      obtain ⟨e1, e2, e3, e4, e5⟩ := aaggEq_sound (w := w) hx hy hu h1 h2
      refine gives_bool (x := b) ?_ h3
      simp [e1, e3, e4]
    · obtain ⟨h1, b, h2, h3⟩ := h
      obtain ⟨e1, e2, e3, e4, e5⟩ := aaggEq_sound (w := w) hx hy hu h1 h2
      refine gives_bool (x := !b) ?_ h3
      simp [e2, e3, e5]
  · cases op <;> simp only at h <;> try exact h.elim
    · obtain ⟨h1, b, h2, h3⟩ := h
      obtain ⟨e1, e2, e3, e4, e5⟩ := aeq_sound (w := w) hx hy h1 h2
      refine gives_bool (x := b) ?_ h3
      simp [e1, e3, e4]
    · obtain ⟨h1, b, h2, h3⟩ := h
      obtain ⟨e1, e2, e3, e4, e5⟩ := aeq_sound (w := w) hx hy h1 h2
      refine gives_bool (x := !b) ?_ h3
      simp [e2, e3, e5]

end Go.Proofs.Ytoofpdmdgofdcaa.E

namespace Go.Proofs.Ytoofpdmdgofdcaa.E
open Go Go.RowKit
set_option linter.unusedVariables false
set_option linter.unusedSimpArgs false

variable {P : Program}

theorem add_mk (bk off n : Nat) : (⟨bk, off, none⟩ : Addr).add n = ⟨bk, off + n, none⟩ := by
  unfold Addr.add
  split
  · rename_i h; subst h; rfl
  · rfl

/-- What a pointer points to, so many cells further. -/
def aoff (x : AV) (n : Nat) (K : AV → Prop) : Prop :=
  match x with
  | .pi cs k => K (.pi cs (k + n))
  | .pm id off => K (.pm id (off + n))
  | _ => False

theorem aoff_sound {g : Gh} {x : AV} {vx : Value} {n : Nat} {K : AV → Prop} (hx : R g.S g.ρ x vx) (h : aoff x n K) :
    ∃ bk off c, vx = .pointer (some ⟨bk, off, none⟩) ∧ R g.S g.ρ c (.pointer (some ⟨bk, off + n, none⟩)) ∧ Pl c ∧ K c := by
  unfold aoff at h
  split at h
  · rename_i cs k
    cases hx with
    | pi cs k bk off vs h1 h2 =>
      exact ⟨bk, off + k, _, rfl, by rw [Nat.add_assoc]; exact .pi cs (k + n) bk off vs h1 h2, pl_mk (by simp) (by simp), h⟩
  · rename_i id off
    cases hx with
    | pm id off bk hb => exact ⟨bk, off, _, rfl, .pm id (off + n) bk hb, pl_mk (by simp) (by simp), h⟩
  · exact h.elim

def afieldAddr (P : Program) (s : TypeId) (x : AV) (f : Nat) (K : AV → Prop) : Prop :=
  match P.underlying s with
  | some (.struct fs) => match fs[f]? with
    | some fd => match tsize P fd.type with
      | some n => n ≠ 0 ∧ aoff x fd.offset K
      | none => False
    | none => False
  | _ => False

theorem afieldAddr_sound {g : Gh} {w : World} {K : AV → Prop} {s : TypeId} {x : AV} {vx : Value} {f : Nat} (hx : R g.S g.ρ x vx) (h : afieldAddr P s x f K) : Gives P g w K (Instr.fieldAt s vx f) := by
  unfold afieldAddr at h
  split at h <;> try exact h.elim
  rename_i fs hu
  split at h <;> try exact h.elim
  rename_i fd hf
  split at h <;> try exact h.elim
  rename_i n hn
  obtain ⟨h0, h⟩ := h
  obtain ⟨bk, off, c, rfl, hr, hp, hk⟩ := aoff_sound hx h
  refine ⟨c, _, ?_, hr, hp, hk⟩
  simp [Instr.fieldAt, run_und hu, hf, Instr.sureAddr, fieldPlace, run_size hn, h0, add_mk]

def aidx (P : Program) (t : TypeId) (x ix : AV) (K : AV → Prop) : Prop :=
  match ix with
  | .i _ i => match P.underlying t with
    | some (.slice e) => match tsize P e with
      | some sz => match x with
        | .sl _ n cs => (0 ≤ i ∧ i < (n : Int)) ∧ K (.pi cs (i.toNat * sz))
        | .sm id off n _ _ => (0 ≤ i ∧ i < (n : Int)) ∧ K (.pm id (off + i.toNat * sz))
        | _ => False
      | none => False
    | some (.array len e) => match tsize P e with
      | some sz => (0 ≤ i ∧ i < (len : Int)) ∧ aoff x (i.toNat * sz) K
      | none => False
    | _ => False
  | _ => False

theorem aidx_sound {g : Gh} {w : World} {K : AV → Prop} {t : TypeId} {x ix : AV} {vx vi : Value} (hx : R g.S g.ρ x vx) (hi : R g.S g.ρ ix vi) (h : aidx P t x ix K) : Gives P g w K (Instr.indexAt t vx vi) := by
  unfold aidx at h
  split at h <;> try exact h.elim
  rename_i kk i
  cases hi
  split at h <;> try exact h.elim
  · rename_i e hu
    split at h <;> try exact h.elim
    rename_i sz hsz
    split at h <;> try exact h.elim
    · rename_i o n cs
      obtain ⟨⟨h0, h1⟩, hk⟩ := h
      cases hx with
      | sl0 => exact absurd h1 (by simp; omega)
      | sl o ho n cs bk off cap hn hc vs hS hR =>
        refine ⟨_, .pointer (some ⟨bk, off + i.toNat * sz, none⟩), ?_, .pi cs (i.toNat * sz) bk off vs hS hR, pl_mk (by simp) (by simp), hk⟩
        simp [Instr.indexAt, asIntOf, run_und hu, h0, h1, run_size hsz, add_mk]
    · rename_i id off n cap z
      obtain ⟨⟨h0, h1⟩, hk⟩ := h
      cases hx with
      | sm id off n cap z bk hb hn hc =>
        refine ⟨_, .pointer (some ⟨bk, off + i.toNat * sz, none⟩), ?_, .pm id _ bk hb, pl_mk (by simp) (by simp), hk⟩
        simp [Instr.indexAt, asIntOf, run_und hu, h0, h1, run_size hsz, add_mk]
  · rename_i len e hu
    split at h <;> try exact h.elim
    rename_i sz hsz
    obtain ⟨⟨h0, h1⟩, hk⟩ := h
    obtain ⟨bk, off, c, rfl, hr, hp, hk⟩ := aoff_sound hx hk
    refine ⟨c, _, ?_, hr, hp, hk⟩
    simp [Instr.indexAt, asIntOf, run_und hu, h0, h1, run_size hsz, add_mk, Instr.sureAddr]

def plK (K : AV → Prop) (c : AV) : Prop := K c.pl

/-- A part of an aggregate. -/
def apart (P : Program) (t : TypeId) (cs : List AV) (off : Nat) (K : AV → Prop) : Prop :=
  match P.underlying t with
  | some d => if aggT d then (match tsize P t with | some n => K (.agg ((cs.drop off).take n)) | none => False) else optK cs[off]? (plK K)
  | none => False

theorem apart_sound {g : Gh} {w : World} {K : AV → Prop} {t : TypeId} {cs : List AV} {vs : Array Value} {off : Nat} (hx : R g.S g.ρ (.agg cs) (.agg vs)) (h : apart P t cs off K) : Gives P g w K (part t vs off) := by
  cases hx with
  | agg _ _ hl hR =>
  unfold apart at h
  split at h <;> try exact h.elim
  rename_i d hu
  split at h
  · rename_i ha
    split at h <;> try exact h.elim
    rename_i n hn
    refine ⟨.agg ((cs.drop off).take n), .agg (vs.extract off (off + n)), ?_, .agg _ _ ?_ ?_, pl_mk (by simp) (by simp), h⟩
    · simp [part, run_agg hu, ha, run_size hn]
    · simp [hl]; omega
    · intro j c v hc hv
      have hj : j < n := by
        rcases Nat.lt_or_ge j n with h1 | h1
        · exact h1
        · rw [List.getElem?_eq_none (by simp; omega)] at hc; cases hc
      rw [List.getElem?_take_of_lt hj, List.getElem?_drop] at hc
      have hv2 : vs[off + j]? = some v := by
        rw [Array.getElem?_extract] at hv
        split at hv
        · exact hv
        · cases hv
      exact hR _ _ _ hc hv2
  · rename_i ha
    obtain ⟨c, hc, hk⟩ := h
    have hlt : off < vs.size := by rw [hl]; exact (List.getElem?_eq_some_iff.1 hc).1
    have hv : vs[off]? = some vs[off] := Array.getElem?_eq_getElem hlt
    refine ⟨c.pl, vs[off], ?_, (hR _ _ _ hc hv).pl, Pl.pl c, hk⟩
    simp [part, run_agg hu, ha, hv]

def afield (P : Program) (t : TypeId) (x : AV) (f : Nat) (K : AV → Prop) : Prop :=
  match P.underlying t with
  | some (.struct fs) => match fs[f]? with
    | some fd => match x with
      | .agg cs => apart P fd.type cs fd.offset K
      | _ => False
    | none => False
  | _ => False

theorem afield_sound {g : Gh} {w : World} {K : AV → Prop} {t : TypeId} {x : AV} {vx : Value} {f : Nat} (hx : R g.S g.ρ x vx) (h : afield P t x f K) : Gives P g w K (Instr.field t vx f) := by
  unfold afield at h
  split at h <;> try exact h.elim
  rename_i fs hu
  split at h <;> try exact h.elim
  rename_i fd hf
  split at h <;> try exact h.elim
  rename_i cs
  cases hx with
  | agg _ vs hl hR =>
    exact (apart_sound (.agg _ _ hl hR) h).of_eq (by simp [Instr.field, run_und hu, hf, asAgg])

def aindex (P : Program) (t : TypeId) (x ix : AV) (K : AV → Prop) : Prop :=
  match ix with
  | .i _ i => match P.underlying t with
    | some .string => match x with
      | .s l => (0 ≤ i ∧ i < (l.length : Int)) ∧ K (.i .u8 ((l.getD i.toNat 0).toNat : Int))
      | _ => False
    | some (.array len e) => match tsize P e with
      | some sz => match x with
        | .agg cs => (0 ≤ i ∧ i < (len : Int)) ∧ apart P e cs (i.toNat * sz) K
        | _ => False
      | none => False
    | _ => False
  | _ => False

theorem inR_u8 (b : UInt8) : inR .u8 (b.toNat : Int) := by
  have := b.toNat_lt
  unfold inR
  simp [IntKind.min, IntKind.max, IntKind.signed, IntKind.bits]
  omega

theorem aindex_sound {g : Gh} {w : World} {K : AV → Prop} {t : TypeId} {x ix : AV} {vx vi : Value} (hx : R g.S g.ρ x vx) (hi : R g.S g.ρ ix vi) (h : aindex P t x ix K) : Gives P g w K (Instr.index t vx vi) := by
  unfold aindex at h
  split at h <;> try exact h.elim
  rename_i kk i
  cases hi
  split at h <;> try exact h.elim
  · rename_i hu
    split at h <;> try exact h.elim
    rename_i l
    obtain ⟨⟨h0, h1⟩, hk⟩ := h
    cases hx with
    | s _ hl =>
      have hlt : i.toNat < l.length := by omega
      refine gives_int ?_ (inR_u8 _) hk
      have e : (⟨l.toArray⟩ : ByteArray)[i.toNat]? = some (l.getD i.toNat 0) := by
        have hs : i.toNat < (⟨l.toArray⟩ : ByteArray).size := by simpa [ByteArray.size] using hlt
        rw [getElem?_pos (⟨l.toArray⟩ : ByteArray) i.toNat hs]
        simp [List.getD_eq_getElem?_getD, List.getElem?_eq_getElem hlt]
        rfl
      simp only [Instr.index, asIntOf, Sem.run_bind, Sem.run_pure, Result.andThen_ok, run_und hu, h0, if_true, e]
  · rename_i len e hu
    split at h <;> try exact h.elim
    rename_i sz hsz
    split at h <;> try exact h.elim
    rename_i cs
    obtain ⟨⟨h0, h1⟩, hk⟩ := h
    cases hx with
    | agg _ vs hl hR =>
      refine (apart_sound (.agg _ _ hl hR) hk).of_eq ?_
      simp only [Instr.index, asIntOf, Sem.run_bind, Sem.run_pure, Result.andThen_ok, run_und hu, h0, h1, and_self, if_true, run_size hsz]

/-- A bound of a slice: what it is, or what stands for it. -/
def bnd (x : Option AV) (d : Int) : Option Int :=
  match x with
  | none => some d
  | some (.i _ n) => some n
  | _ => none

/-- A part of nil is nil. -/
def slOw : Ow → Ow | .nil => .nil | _ => .no

def aslice2 (x : AV) (sz : Nat) (l h : Int) (K : AV → Prop) : Prop :=
  match x with
  | .s s => (0 ≤ l ∧ l ≤ h ∧ h ≤ (s.length : Int)) ∧ K (.s ((s.take h.toNat).drop l.toNat))
  | .sl o n cs => (0 ≤ l ∧ l ≤ h ∧ h ≤ (n : Int)) ∧ K (.sl (slOw o) (h.toNat - l.toNat) ((cs.drop (l.toNat * sz)).take ((h.toNat - l.toNat) * sz)))
  | .sm id off n cap z => (0 ≤ l ∧ l ≤ h ∧ h ≤ (n : Int)) ∧ K (.sm id (if (cap : Int) = l then off else off + l.toNat * sz) (h.toNat - l.toNat) (cap - l.toNat) z)
  | _ => False

/-- The length of what is cut. -/
def alen : AV → Int
  | .s s => s.length
  | .sl _ n _ => n
  | .sm _ _ n _ _ => n
  | _ => 0

def aslice (P : Program) (t : TypeId) (x : AV) (lo hi mx : Option AV) (K : AV → Prop) : Prop :=
  match mx with
  | some _ => False
  | none => match bnd lo 0 with
    | none => False
    | some l => match P.underlying t with
      | some .string => (match x with
        | .s s => (match bnd hi s.length with | some h => aslice2 (.s s) 1 l h K | none => False)
        | _ => False)
      | some (.slice e) => match tsize P e with
        | some sz => (match x with
          | .sl o n cs => (match bnd hi n with | some h => aslice2 (.sl o n cs) sz l h K | none => False)
          | .sm id off n cap z => (match bnd hi n with | some h => aslice2 (.sm id off n cap z) sz l h K | none => False)
          | _ => False)
        | none => False
      | some (.array n e) => match tsize P e with
        | some sz => (match x with
          | .pm id off => (match bnd hi n with | some h => (n ≤ 281474976710656) ∧ aslice2 (.sm id off n n sz) sz l h K | none => False)
          | _ => False)
        | none => False
      | _ => False

theorem bnd_run {g : Gh} {w : World} {x : Option AV} {v : Option Value} {d n : Int} (hx : ∀ c, x = some c → ∃ u, v = some u ∧ R g.S g.ρ c u) (hn : x = none → v = none) (h : bnd x d = some n) :
    (v = none ∧ n = d) ∨ ∃ k, v = some (.int k n) := by
  unfold bnd at h
  split at h
  · cases h; exact .inl ⟨hn rfl, rfl⟩
  · obtain ⟨u, hu, hr⟩ := hx _ rfl
    cases h
    cases hr
    exact .inr ⟨_, hu⟩
  · cases h

theorem sliceBounds_run {w : World} (isSlice : Bool) {len cap : Nat} {lo hi : Option Value} {l h : Int} (hl : (lo = none ∧ l = 0) ∨ ∃ k, lo = some (.int k l)) (hh : (hi = none ∧ h = (len : Int)) ∨ ∃ k, hi = some (.int k h))
    (h0 : 0 ≤ l) (h1 : l ≤ h) (h2 : h ≤ (cap : Int)) : (Instr.sliceBounds isSlice len cap lo hi none).run P w = .ok (l.toNat, h.toNat, cap) w := by
  have hle : l ≤ ((h.toNat : Nat) : Int) := by omega
  have h3 : 0 ≤ h := by omega
  have hm : Max.max h 0 = h := Int.max_eq_left h3
  rcases hl with ⟨rfl, rfl⟩ | ⟨k, rfl⟩ <;> rcases hh with ⟨rfl, rfl⟩ | ⟨k', rfl⟩ <;>
    simp [Instr.sliceBounds, Instr.sliceBound, asIntOf, h0, h1, h2, h3, hle, hm]

theorem aslice_sl {S : Imm} {ρ : List Nat} {o : Ow} {n : Nat} {cs : List AV} {a : Option Addr} {cap sz : Nat} {l h : Int} (hx : R S ρ (.sl o n cs) (.slice a n cap)) (h0 : 0 ≤ l) (h1 : l ≤ h) (h2 : h ≤ (n : Int)) :
    R S ρ (.sl (slOw o) (h.toNat - l.toNat) ((cs.drop (l.toNat * sz)).take ((h.toNat - l.toNat) * sz))) (.slice (if cap = l.toNat then a else a.map (·.add (l.toNat * sz))) (h.toNat - l.toNat) (cap - l.toNat)) := by
  cases hx with
  | sl0 =>
    have e1 : l = 0 := by omega
    have e2 : h = 0 := by omega
    subst e1
    subst e2
    simp
    exact .sl0 _
  | sl o ho n cs bk off cap hn hc vs hS hR =>
    have hno : slOw o = .no := by cases o <;> first | rfl | exact absurd rfl ho
    rw [hno]
    by_cases e : cap = l.toNat
    · rw [if_pos e]
      have e1 : h.toNat - l.toNat = 0 := by omega
      rw [e1]
      simp
      exact .sl _ (by simp) _ _ _ _ _ (by omega) (by omega) (fun _ => undef) (fun j c h => by simp at h) (fun j c h => by simp at h)
    · rw [if_neg e]
      simp only [Option.map_some, add_mk]
      have key : ∀ (j : Nat) (c : AV), ((cs.drop (l.toNat * sz)).take ((h.toNat - l.toNat) * sz))[j]? = some c → cs[l.toNat * sz + j]? = some c := fun j c hj => by
        have hlt : j < (h.toNat - l.toNat) * sz := by
          rcases Nat.lt_or_ge j ((h.toNat - l.toNat) * sz) with h1 | h1
          · exact h1
          · rw [List.getElem?_eq_none (by simp; omega)] at hj; cases hj
        rw [List.getElem?_take_of_lt hlt, List.getElem?_drop] at hj
        exact hj
      refine .sl _ (by simp) _ _ _ _ _ (by omega) (by omega) (fun j => vs (l.toNat * sz + j)) (fun j c hj => ?_) (fun j c hj => hR _ _ (key j c hj))
      rw [Nat.add_assoc]
      exact hS _ _ (key j c hj)

theorem drop_take_str (s : List UInt8) (l h : Nat) : (⟨s.toArray⟩ : ByteArray).extract l h = ⟨((s.take h).drop l).toArray⟩ := by
  apply ByteArray.ext
  rw [ByteArray.data_extract]
  apply Array.ext'
  simp [List.extract_eq_take_drop, List.drop_take]

theorem aslice_sound {g : Gh} {w : World} {K : AV → Prop} {t : TypeId} {x : AV} {vx : Value} {lo hi mx : Option AV} {vl vh vm : Option Value} (hx : R g.S g.ρ x vx)
    (hl : ∀ c, lo = some c → ∃ u, vl = some u ∧ R g.S g.ρ c u) (hl' : lo = none → vl = none) (hh : ∀ c, hi = some c → ∃ u, vh = some u ∧ R g.S g.ρ c u) (hh' : hi = none → vh = none) (hm : mx = none → vm = none)
    (h : aslice P t x lo hi mx K) : Gives P g w K (Instr.sliceAt t vx vl vh vm) := by
  unfold aslice at h
  split at h <;> try exact h.elim
  cases hm rfl
  split at h <;> try exact h.elim
  rename_i l hbl
  have el := bnd_run (w := w) hl hl' hbl
  split at h <;> try exact h.elim
  · rename_i hu
    split at h <;> try exact h.elim
    rename_i s
    split at h <;> try exact h.elim
    rename_i hv hbh
    have eh := bnd_run (w := w) hh hh' hbh
    obtain ⟨⟨h0, h1, h2⟩, hk⟩ := h
    cases hx with
    | s _ hs =>
      have hsz : (⟨s.toArray⟩ : ByteArray).size = s.length := by simp [ByteArray.size]
      refine gives_str (by simp; omega) ?_ hk
      simp only [Instr.sliceAt, Sem.run_bind, run_und hu, Result.andThen_ok, Instr.slice, Option.isSome_none, Bool.false_eq_true, if_false, hsz, sliceBounds_run false el eh h0 h1 h2, Sem.run_pure, drop_take_str]
  · rename_i e hu
    split at h <;> try exact h.elim
    rename_i sz hsz
    split at h <;> try exact h.elim
    · rename_i o n cs
      split at h <;> try exact h.elim
      rename_i hv hbh
      have eh := bnd_run (w := w) hh hh' hbh
      obtain ⟨⟨h0, h1, h2⟩, hk⟩ := h
      have hf : ∃ a cap, vx = .slice a n cap ∧ n ≤ cap := by
        cases hx with
        | sl0 => exact ⟨_, _, rfl, Nat.le_refl _⟩
        | sl o ho n cs bk off cap hn hc vs hS hR => exact ⟨_, _, rfl, hn⟩
      obtain ⟨a, cap, rfl, hn⟩ := hf
      refine ⟨_, _, ?_, aslice_sl (sz := sz) hx h0 h1 h2, pl_mk (by intro z n' cs' e; cases o <;> simp [slOw] at e) (by simp), hk⟩
      simp only [Instr.sliceAt, Sem.run_bind, run_und hu, Result.andThen_ok, Instr.slice, sliceBounds_run true el eh h0 h1 (show _ ≤ (cap : Int) by omega), run_size hsz, Sem.run_pure]
    · rename_i id off n cap z
      split at h <;> try exact h.elim
      rename_i hv hbh
      have eh := bnd_run (w := w) hh hh' hbh
      obtain ⟨⟨h0, h1, h2⟩, hk⟩ := h
      cases hx with
      | sm id off n cap z bk hb hn hc =>
        refine ⟨_, .slice (some ⟨bk, if (cap : Int) = l then off else off + l.toNat * sz, none⟩) (hv.toNat - l.toNat) (cap - l.toNat), ?_, .sm _ _ _ _ _ bk hb (by omega) (by omega), pl_mk (by simp) (by simp), hk⟩
        simp only [Instr.sliceAt, Sem.run_bind, run_und hu, Result.andThen_ok, Instr.slice, sliceBounds_run true el eh h0 h1 (show hv ≤ (cap : Int) by omega), run_size hsz, Sem.run_pure]
        by_cases e : (cap : Int) = l
        · rw [if_pos e, if_pos (by omega)]
        · rw [if_neg e, if_neg (by omega)]
          simp [add_mk]
  · rename_i n e hu
    split at h <;> try exact h.elim
    rename_i sz hsz
    split at h <;> try exact h.elim
    rename_i id off
    split at h <;> try exact h.elim
    rename_i hv hbh
    have eh := bnd_run (w := w) hh hh' hbh
    obtain ⟨hn48, ⟨h0, h1, h2⟩, hk⟩ := h
    cases hx with
    | pm id off bk hb =>
      refine ⟨_, .slice (some ⟨bk, if (n : Int) = l then off else off + l.toNat * sz, none⟩) (hv.toNat - l.toNat) (n - l.toNat), ?_, .sm _ _ _ _ _ bk hb (by omega) (by omega), pl_mk (by simp) (by simp), hk⟩
      simp only [Instr.sliceAt, Sem.run_bind, run_und hu, Result.andThen_ok, Instr.sureAddr, sliceBounds_run false el eh h0 h1 h2, run_size hsz, Sem.run_pure]
      by_cases e : (n : Int) = l
      · rw [if_pos e, if_pos (by omega)]
      · rw [if_neg e, if_neg (by omega)]
        simp [add_mk]

end Go.Proofs.Ytoofpdmdgofdcaa.E

namespace Go.Proofs.Ytoofpdmdgofdcaa.E
open Go Go.RowKit
set_option linter.unusedVariables false
set_option linter.unusedSimpArgs false

variable {P : Program}

def aun (op : UnOp) (x : AV) (K : AV → Prop) : Prop :=
  match op, x with
  | .not, .b b => K (.b !b)
  | .neg, .i k n => K (.i k (k.wrap (0 - n)))
  | .xor, .i k n => K (.i k (k.wrap (BitVec.ofInt k.bits (if k.signed then -1 else k.max) ^^^ BitVec.ofInt k.bits n).toNat))
  | _, _ => False

theorem aun_sound {g : Gh} {w : World} {K : AV → Prop} {op : UnOp} {x : AV} {vx : Value} (hx : R g.S g.ρ x vx) (h : aun op x K) : Gives P g w K (Op.unary op vx) := by
  unfold aun at h
  split at h <;> try exact h.elim
  · cases hx; exact gives_bool (by rfl) h
  · cases hx; exact gives_int (by rfl) (inR_wrap _ _) h
  · cases hx; exact gives_int (by rfl) (inR_wrap _ _) h

/-- The cells of bytes. -/
def encB (l : List UInt8) : List AV := l.map fun b => .i .u8 (b.toNat : Int)

def unB1 : AV → Option UInt8
  | .i .u8 n => some (UInt8.ofNat n.toNat)
  | _ => none

def unB : List AV → Option (List UInt8)
  | [] => some []
  | c :: r => match unB1 c, unB r with
    | some b, some l => some (b :: l)
    | _, _ => none

theorem unB_encB (l : List UInt8) : unB (encB l) = some l := by
  induction l with
  | nil => rfl
  | cons b l ih =>
    have e : UInt8.ofNat ((b.toNat : Int)).toNat = b := by simp
    simp only [encB, List.map_cons, unB, unB1] at *
    rw [ih, e]

def strK (K : AV → Prop) (l : List UInt8) : Prop := l.length ≤ 1152921504606846976 ∧ K (.s l)

/-- A conversion that makes no memory. 'cells': what a slice reads as. -/
def acnv (P : Program) (src dst : TypeId) (x : AV) (K : AV → Prop) : Prop :=
  match P.underlying src, P.underlying dst with
  | some ds, some (.int k) => (match x with | .i _ n => K (.i k (k.wrap n)) | _ => False)
  | some ds, some .string => (match x with
    | .s l => K (.s l)
    | .sl _ n cs => (match ds with
      | .slice e => P.underlying e = some (.int .u8) ∧ n ≤ cs.length ∧ optK (unB (cs.take n)) (strK K)
      | _ => False)
    | _ => False)
  | _, _ => False

theorem unB_get {S : Imm} {ρ : List Nat} : ∀ (cs : List AV) (l : List UInt8), unB cs = some l → cs.length = l.length ∧ ∀ (j : Nat) (c : AV) (v : Value), cs[j]? = some c → R S ρ c v → v = .int .u8 ((l.map fun b => (b.toNat : Int)).getD j 0)
  | [], l, h => by simp [unB] at h; subst h; simp
  | c :: cs, l, h => by
    simp only [unB] at h
    split at h
    · rename_i b l' h1 h2
      cases h
      obtain ⟨h3, h4⟩ := unB_get cs l' h2
      refine ⟨by simp [h3], fun j c' v hc hr => ?_⟩
      cases j with
      | zero =>
        simp at hc
        subst hc
        unfold unB1 at h1
        split at h1
        · rename_i n
          cases h1
          cases hr with
          | i k n hn =>
            unfold inR at hn
            simp [IntKind.min, IntKind.max, IntKind.signed, IntKind.bits] at hn
            simp
            omega
        · cases h1
      | succ j =>
        simp at hc
        simpa using h4 j c' v hc hr
    · cases h

theorem strOfNums_bytes (l : List UInt8) : strOfNums (l.map fun b => (b.toNat : Int)) = ⟨l.toArray⟩ := by
  have h : ((fun n : Int => UInt8.ofNat n.toNat) ∘ fun b : UInt8 => (b.toNat : Int)) = id := by funext b; simp
  unfold strOfNums
  simp [h]

theorem acnv_sound {g : Gh} {σ : AState} {w : World} {K : AV → Prop} {src dst : TypeId} {x : AV} {vx : Value} (hs : Sim g σ w) (hx : R g.S g.ρ x vx) (h : acnv P src dst x K) : Gives P g w K (convert src dst vx) := by
  unfold acnv at h
  split at h <;> try exact h.elim
  · rename_i ds k h1 h2
    split at h <;> try exact h.elim
    cases hx
    refine gives_int ?_ (inR_wrap _ _) h
    simp only [convert, Sem.run_bind, run_und h1, run_und h2, Result.andThen_ok, Conv.intToInt]
    cases ds <;> rfl
  · rename_i ds h1 h2
    split at h <;> try exact h.elim
    · rename_i l
      cases hx with
      | s _ hl =>
        refine gives_str hl ?_ h
        simp only [convert, Sem.run_bind, run_und h1, run_und h2, Result.andThen_ok]
        cases ds <;> rfl
    · rename_i o n cs
      split at h <;> try exact h.elim
      rename_i e
      obtain ⟨he, hn, l, hl, hlen, hk⟩ := h
      refine gives_str hlen ?_ hk
      cases hx with
      | sl0 =>
        simp [unB] at hl
        subst hl
        rw [run_convert_bytes_nil w src e h1 he 0 0 dst h2]
        rfl
      | sl _ _ _ _ bk off cap hnc hc vs hS hR =>
        obtain ⟨h3, h4⟩ := unB_get (S := g.S) (ρ := g.ρ) _ _ hl
        have hln : l.length = n := by rw [← h3]; simp; omega
        rw [run_convert_bytes_arg w src e h1 he bk off n cap (l.map fun b => (b.toNat : Int)) (by simp [hln]) (fun i hi => ?_) dst h2, strOfNums_bytes]
        have hi2 : i < cs.length := by omega
        have hci : cs[i]? = some cs[i] := List.getElem?_eq_getElem hi2
        rw [hs.imm _ _ _ (hS i _ hci)]
        have := h4 i cs[i] (vs i) (by rw [List.getElem?_take_of_lt hi]; exact hci) (hR i _ hci)
        rw [this]

def anil (x : AV) (K : AV → Prop) : Prop :=
  match x with
  | .pi cs k => K (.pi cs k)
  | .pm id off => K (.pm id off)
  | .fn f cs => K (.fn f cs)
  | _ => False

/-- One cell, where a pointer points to. -/
def readC (σ : AState) (x : AV) : Option AV :=
  match x with
  | .pi cs k => cs[k]?
  | .pm id off => match σ[id]? with
    | some (.cells cs) => cs[off]?
    | _ => none
  | _ => none

/-- So many cells from there on. -/
def readN (σ : AState) (x : AV) : Nat → Option (List AV)
  | 0 => some []
  | n + 1 => match readN σ x n with
    | some l => match (match x with | .pi cs k => readC σ (.pi cs (k + n)) | .pm id off => readC σ (.pm id (off + n)) | _ => none) with
      | some c => some (l ++ [c])
      | none => none
    | none => none

def aggK (K : AV → Prop) (cs : List AV) : Prop := K (.agg (cs.map AV.pl))

def aload (P : Program) (σ : AState) (t : TypeId) (x : AV) (K : AV → Prop) : Prop :=
  match P.underlying t with
  | some d => if aggT d then (match tsize P t with | some n => n ≠ 0 ∧ optK (readN σ x n) (aggK K) | none => False) else optK (readC σ x) (plK K)
  | none => False

theorem readC_sound {g : Gh} {σ : AState} {w : World} (hs : Sim g σ w) {x c : AV} {bk off : Nat} (hx : R g.S g.ρ x (.pointer (some ⟨bk, off, none⟩))) (h : readC σ x = some c) :
    ∃ v, w.cell? ⟨bk, off, none⟩ = some v ∧ R g.S g.ρ c v := by
  unfold readC at h
  split at h
  · rename_i cs k
    cases hx with
    | pi cs k bk off vs h1 h2 => exact ⟨_, hs.imm _ _ _ (h1 _ _ h), h2 _ _ h⟩
  · rename_i id off
    split at h
    · rename_i cs ho
      cases hx with
      | pm id off bk hb =>
        obtain ⟨b1, us, E, fr, h2, h3, h4, h5, h6, h7, h8⟩ := hs.obj id _ ho
        rw [hb] at h2
        cases h2
        have hlt : off < us.size := by rw [h4]; exact (List.getElem?_eq_some_iff.1 h).1
        have hv : us[off]? = some us[off] := Array.getElem?_eq_getElem hlt
        exact ⟨us[off], by rw [cell_cells h3, hv], (h8 off c _ h hv).1⟩
    · cases h
  · cases h

theorem readN_sound {g : Gh} {σ : AState} {w : World} (hs : Sim g σ w) {x : AV} {bk off : Nat} (hx : R g.S g.ρ x (.pointer (some ⟨bk, off, none⟩))) : ∀ (n : Nat) (cs : List AV), readN σ x n = some cs →
    ∃ vs : List Value, vs.length = n ∧ cs.length = n ∧ (∀ (j : Nat) (v : Value), vs[j]? = some v → w.cell? ⟨bk, off + j, none⟩ = some v) ∧ ∀ (j : Nat) (c : AV) (v : Value), cs[j]? = some c → vs[j]? = some v → R g.S g.ρ c v
  | 0, cs, h => by
    simp [readN] at h
    subst h
    exact ⟨[], rfl, rfl, fun j v h => by simp at h, fun j c v h => by simp at h⟩
  | n + 1, cs, h => by
    simp only [readN] at h
    split at h
    · rename_i l hl
      split at h
      · rename_i c hc
        cases h
        obtain ⟨vs, h1, h2, h3, h4⟩ := readN_sound hs hx n l hl
        have hx2 : ∃ v, w.cell? ⟨bk, off + n, none⟩ = some v ∧ R g.S g.ρ c v := by
          cases hx with
          | u => cases hc
          | pi cs k bk off us h5 h6 => exact readC_sound hs (x := .pi cs (k + n)) (by rw [Nat.add_assoc]; exact .pi cs (k + n) bk off us h5 h6) hc
          | pm id off bk hb => exact readC_sound hs (x := .pm id (off + n)) (.pm id _ bk hb) hc
          | val => cases hc
        obtain ⟨v, h5, h6⟩ := hx2
        refine ⟨vs ++ [v], by simp [h1], by simp [h2], fun j u hu => ?_, fun j c' u hc' hu => ?_⟩
        · rcases Nat.lt_or_ge j n with hj | hj
          · rw [List.getElem?_append_left (by omega)] at hu
            exact h3 j u hu
          · rw [List.getElem?_append_right (by omega)] at hu
            have e : j = n := by
              have := (List.getElem?_eq_some_iff.1 hu).1
              simp at this
              omega
            subst e
            simp [h1] at hu
            subst hu
            exact h5
        · rcases Nat.lt_or_ge j n with hj | hj
          · rw [List.getElem?_append_left (by omega)] at hu hc'
            exact h4 j c' u hc' hu
          · rw [List.getElem?_append_right (by omega)] at hu hc'
            have e : j = n := by
              have := (List.getElem?_eq_some_iff.1 hu).1
              simp at this
              omega
            subst e
            simp [h1] at hu
            simp [h2] at hc'
            subst hu
            subst hc'
            exact h6
      · cases h
    · cases h

theorem run_loadVar_agg {w : World} {t : TypeId} {d : TypeDesc} {bk off : Nat} {vs : List Value} (hu : P.underlying t = some d) (ha : aggT d = true) (hn : tsize P t = some vs.length)
    (h : ∀ (j : Nat) (v : Value), vs[j]? = some v → w.cell? ⟨bk, off + j, none⟩ = some v) : (loadVar t ⟨bk, off, none⟩).run P w = .ok (.agg vs.toArray) w := by
  simp only [loadVar, Sem.run_bind, run_agg hu, Result.andThen_ok, ha, if_true, run_size hn, run_loadCells_list w ⟨bk, off, none⟩ vs (fun j v hj => by rw [add_mk]; exact h j v hj), Sem.run_pure]

theorem run_loadVar_one {w : World} {t : TypeId} {d : TypeDesc} {bk off : Nat} {v : Value} (hu : P.underlying t = some d) (ha : aggT d = false)
    (h : w.cell? ⟨bk, off, none⟩ = some v) : (loadVar t ⟨bk, off, none⟩).run P w = .ok v w := by
  simp only [loadVar, Sem.run_bind, run_agg hu, Result.andThen_ok, ha, Bool.false_eq_true, if_false, run_load, h]

theorem ptr_of {S : Imm} {ρ : List Nat} {σ : AState} {x : AV} {v : Value} (hx : R S ρ x v) (h : (∃ c, readC σ x = some c) ∨ ∃ n cs, readN σ x (n + 1) = some cs) : ∃ bk off, v = .pointer (some ⟨bk, off, none⟩) := by
  cases hx with
  | pi cs k bk off us h5 h6 => exact ⟨_, _, rfl⟩
  | pm id off bk hb => exact ⟨_, _, rfl⟩
  | _ =>
    exfalso
    rcases h with ⟨c, h⟩ | ⟨n, cs, h⟩
    · simp [readC] at h
    · simp only [readN] at h
      split at h
      · simp at h
      · cases h

theorem aload_sound {g : Gh} {σ : AState} {w : World} {K : AV → Prop} {t : TypeId} {x : AV} {vx : Value} (hs : Sim g σ w) (hx : R g.S g.ρ x vx) (hp : ∃ bk off, vx = .pointer (some ⟨bk, off, none⟩)) (h : aload P σ t x K) :
    Gives P g w K (Instr.loadAt t vx) := by
  obtain ⟨bk, off, rfl⟩ := hp
  unfold aload at h
  split at h <;> try exact h.elim
  rename_i d hu
  split at h
  · rename_i ha
    split at h <;> try exact h.elim
    rename_i n hn
    obtain ⟨_, cs, hcs, hk⟩ := h
    obtain ⟨vs, h1, h2, h3, h4⟩ := readN_sound hs hx n cs hcs
    refine ⟨_, .agg vs.toArray, ?_, .agg (cs.map AV.pl) vs.toArray (by simp [h1, h2]) ?_, pl_mk (by simp) (by simp), hk⟩
    · simp only [Instr.loadAt, Instr.sureAddr, Sem.run_bind, Sem.run_pure, Result.andThen_ok]
      exact run_loadVar_agg hu ha (by rw [hn, h1]) h3
    · intro j c v hc hv
      simp only [List.getElem?_map, Option.map_eq_some_iff] at hc
      obtain ⟨c0, hc0, rfl⟩ := hc
      exact (h4 j c0 v hc0 (by simpa using hv)).pl
  · rename_i ha
    obtain ⟨c, hc, hk⟩ := h
    obtain ⟨v, h1, h2⟩ := readC_sound hs hx hc
    refine ⟨c.pl, v, ?_, h2.pl, Pl.pl c, hk⟩
    simp only [Instr.loadAt, Instr.sureAddr, Sem.run_bind, Sem.run_pure, Result.andThen_ok]
    exact run_loadVar_one hu (by simpa using ha) h1

/-- len, cap, min, max. -/
def alenB (P : Program) (σ : AState) (t : TypeId) (x : AV) (K : AV → Prop) : Prop :=
  match P.underlying t, x with
  | some .string, .s l => K (.i .i64 l.length)
  | some (.slice _), .sl _ n _ => K (.i .i64 n)
  | some (.slice _), .sm _ _ n _ _ => K (.i .i64 n)
  | some (.array n _), _ => n ≤ 281474976710656 ∧ K (.i .i64 n)
  | some (.map _ _), .nilmap => K (.i .i64 0)
  | some (.map _ _), .mp id => (match σ[id]? with | some (.map es) => es.length ≤ 281474976710656 ∧ K (.i .i64 es.length) | _ => False)
  | _, _ => False

theorem inR_nat {n : Nat} (h : n ≤ 2 ^ 60) : inR .i64 (n : Int) := by
  unfold inR
  simp [IntKind.min, IntKind.max, IntKind.signed, IntKind.bits]
  omega

theorem sl_len {S : Imm} {ρ : List Nat} {o : Ow} {n : Nat} {cs : List AV} {v : Value} (h : R S ρ (.sl o n cs) v) : n ≤ 2 ^ 48 ∧ ∃ a cap, v = .slice a n cap ∧ n ≤ cap := by
  cases h with
  | sl0 => exact ⟨by omega, _, _, rfl, Nat.le_refl _⟩
  | sl o ho n cs bk off cap hn hc vs hS hR => exact ⟨by omega, _, _, rfl, hn⟩

theorem alenB_sound {g : Gh} {σ : AState} {w : World} {K : AV → Prop} {t ty : TypeId} {x : AV} {vx : Value} (hs : Sim g σ w) (hx : R g.S g.ρ x vx) (h : alenB P σ t x K) : Gives P g w K (Builtin.len_ #[t] ty #[vx]) := by
  unfold alenB at h
  split at h <;> try exact h.elim
  · rename_i l hu
    cases hx with
    | s _ hl =>
      refine gives_int ?_ (inR_nat hl) h
      have e : (⟨l.toArray⟩ : ByteArray).size = l.length := by simp [ByteArray.size]
      simp [Builtin.len_, run_und hu, goInt, e]
  · rename_i e hu
    obtain ⟨h1, a, cap, rfl, h2⟩ := sl_len hx
    refine gives_int ?_ (inR_nat (by omega)) h
    simp [Builtin.len_, run_und hu, goInt]
  · rename_i e hu
    cases hx with
    | sm id off n cap z bk hb hn hc =>
      refine gives_int ?_ (inR_nat (by omega)) h
      simp [Builtin.len_, run_und hu, goInt]
  · rename_i n e hu
    refine gives_int ?_ (inR_nat (n := n) (by omega)) h.2
    simp [Builtin.len_, run_und hu, goInt]
  · rename_i hu
    cases hx
    refine gives_int ?_ (inR_nat (n := 0) (by omega)) h
    simp [Builtin.len_, run_und hu, goInt]
  · rename_i hu
    split at h <;> try exact h.elim
    rename_i es ho
    cases hx with
    | mp id bk hb =>
      obtain ⟨b1, ms, clock, h2, h3, h4, h5⟩ := hs.obj _ _ ho
      rw [hb] at h2
      cases h2
      refine gives_int ?_ (inR_nat (n := es.length) (by omega)) h.2
      simp [Builtin.len_, run_und hu, goInt, getObj, Sem.run, h3, h4]

def amin2 (x y : AV) : Option AV :=
  match x, y with
  | .i k x, .i k' y => if k = k' then some (.i k (if y < x then y else x)) else none
  | _, _ => none
def amax2 (x y : AV) : Option AV :=
  match x, y with
  | .i k x, .i k' y => if k = k' then some (.i k (if y > x then y else x)) else none
  | _, _ => none

def afold (f : AV → AV → Option AV) : AV → List AV → Option AV
  | x, [] => some x
  | x, y :: r => match f x y with
    | some z => afold f z r
    | none => none

theorem amin_sound {S : Imm} {ρ : List Nat} {w : World} : ∀ (ys : List AV) (us : List Value) (x : AV) (v : Value) (r : AV), us.length = ys.length → R S ρ x v → (∀ (j : Nat) (c : AV) (v : Value), ys[j]? = some c → us[j]? = some v → R S ρ c v) → afold amin2 x ys = some r →
    ∃ u, (us.foldlM Builtin.min2 v).run P w = .ok u w ∧ R S ρ r u
  | [], us, x, v, r, hl, hx, hR, h => by
    cases us with
    | nil => simp [afold] at h; subst h; exact ⟨v, by simp, hx⟩
    | cons _ _ => simp at hl
  | y :: ys, us, x, v, r, hl, hx, hR, h => by
    cases us with
    | nil => simp at hl
    | cons u us =>
      simp only [afold] at h
      split at h
      · rename_i z hz
        unfold amin2 at hz
        split at hz
        · rename_i k a k' b
          split at hz
          · rename_i hk
            subst hk
            cases hz
            have h0 := hR 0 _ u rfl rfl
            cases hx with
            | i _ _ ha =>
              cases h0 with
              | i _ _ hb =>
                have h1 : R S ρ (.i k (if b < a then b else a)) (.int k (if b < a then b else a)) := .i _ _ (by split <;> assumption)
                obtain ⟨q, h2, h3⟩ := amin_sound ys us _ _ r (by simpa using hl) h1 (fun j c v hc hv => hR (j + 1) c v hc hv) h
                exact ⟨q, by simpa [List.foldlM_cons, Builtin.min2] using h2, h3⟩
          · cases hz
        · cases hz
      · cases h

theorem amax_sound {S : Imm} {ρ : List Nat} {w : World} : ∀ (ys : List AV) (us : List Value) (x : AV) (v : Value) (r : AV), us.length = ys.length → R S ρ x v → (∀ (j : Nat) (c : AV) (v : Value), ys[j]? = some c → us[j]? = some v → R S ρ c v) → afold amax2 x ys = some r →
    ∃ u, (us.foldlM Builtin.max2 v).run P w = .ok u w ∧ R S ρ r u
  | [], us, x, v, r, hl, hx, hR, h => by
    cases us with
    | nil => simp [afold] at h; subst h; exact ⟨v, by simp, hx⟩
    | cons _ _ => simp at hl
  | y :: ys, us, x, v, r, hl, hx, hR, h => by
    cases us with
    | nil => simp at hl
    | cons u us =>
      simp only [afold] at h
      split at h
      · rename_i z hz
        unfold amax2 at hz
        split at hz
        · rename_i k a k' b
          split at hz
          · rename_i hk
            subst hk
            cases hz
            have h0 := hR 0 _ u rfl rfl
            cases hx with
            | i _ _ ha =>
              cases h0 with
              | i _ _ hb =>
                have h1 : R S ρ (.i k (if b > a then b else a)) (.int k (if b > a then b else a)) := .i _ _ (by split <;> assumption)
                obtain ⟨q, h2, h3⟩ := amax_sound ys us _ _ r (by simpa using hl) h1 (fun j c v hc hv => hR (j + 1) c v hc hv) h
                exact ⟨q, by simpa [List.foldlM_cons, Builtin.max2] using h2, h3⟩
          · cases hz
        · cases hz
      · cases h

end Go.Proofs.Ytoofpdmdgofdcaa.E

namespace Go.Proofs.Ytoofpdmdgofdcaa.E
open Go Go.RowKit
set_option linter.unusedVariables false
set_option linter.unusedSimpArgs false

inductive ARes where
  | ret (r : AV)
  | pan (x : AV)

inductive AX where
  | normal
  | exit (id : Nat)
  | goto (l : Nat)
  | ret
  | panic (x : AV)

def OnlyO (g : Gh) : Prop := ∀ bk s h, g.ow bk = some (s, h) → ∃ id j, s = .o id j
def OnlyR (g : Gh) : Prop := ∀ bk s h, g.ow bk = some (s, h) → (∃ id j, s = .o id j) ∨ ∃ k, s = .t 0 k

def PostA (g : Gh) (w : World) (Q : ARes → AState → Prop) : Ending → World → Prop
  | .returned v, w' => ∃ r σ' g', Q (.ret r) σ' ∧ Ext g w g' w' ∧ Sim g' σ' w' ∧ R g'.S g'.ρ r v ∧ TopOwn g' 0 r v ∧ OnlyR g'
  | .panicked ch, w' => ∃ x v σ' g', ch = [{ v, recovered := false }] ∧ Q (.pan x) σ' ∧ Ext g w g' w' ∧ Sim g' σ' w' ∧ R g'.S g'.ρ x v ∧ OnlyO g'
  | .outgrown, _ => False

/-- Every machine is let in; the frame is a plain one, or a round's. -/
def FW (r : Option Nat) : Fence := { Fence.wide with round := r }

/-- What comes of a call, as the machine makes it. -/
def Next1 (P : Program) (Rr : Ending → World → Prop) : Result Next → Prop
  | .ok (.value v) w => Rr (.returned v) w
  | .ok (.enter f args) w => Calls P f args w Rr
  | .ok (.row row args) w => Rows P row args w fun v w' => Rr (.returned v) w'
  | .ok (.round l f tmps assign body) w => ∀ (r : Option Nat) (n : Nat), RoundIn (FW r) n P l f tmps assign body w Rr
  | _ => False

/-- Called with such arguments in such a state, the function ends as Q says. -/
def ACalls (P : Program) (G : Nat → AV) (f : FuncId) (args : List AV) (σ : AState) (Q : ARes → AState → Prop) : Prop :=
  ∀ (g : Gh) (w : World) (vs : Array Value), Sim g σ w → OnlyO g → GOK G g → vs.size = args.length → (∀ (j : Nat) (c : AV) (v : Value), args[j]? = some c → vs[j]? = some v → R g.S g.ρ c v ∧ TopOwn g j c v) →
    Next1 P (PostA g w Q) ((callFunc f vs).run P w)

/-- Yield called with such arguments in such a state ends as Q says. -/
def YCalls (P : Program) (G : Nat → AV) (id : Nat) (args : List AV) (σ : AState) (Q : ARes → AState → Prop) : Prop :=
  ∀ (g : Gh) (w : World) (vs : Array Value) (bk : Nat), Sim g σ w → OnlyO g → GOK G g → vs.size = args.length → (∀ (j : Nat) (c : AV) (v : Value), args[j]? = some c → vs[j]? = some v → R g.S g.ρ c v ∧ TopOwn g j c v) → g.ρ[id]? = some bk →
    Next1 P (PostA g w Q) ((Instr.yield bk vs).run P w)

/-- An argument. -/
def AV.ar : AV → AV
  | .agg cs => .agg (cs.map AV.pl)
  | .sl .nil n cs => .sl .nil n cs
  | c => c.pl

/-- What bears no room of its own, but for nil. -/
def AV.st : AV → AV
  | .sl (.yes _) n cs => .sl .no n cs
  | .tup _ => .u
  | c => c

def Kv (K : AEnv → AState → Prop) (env : AEnv) (σ : AState) (d : Option Tmp) (c : AV) : Prop := K (aput env d c) σ

/-- Does an append take this temporary? -/
def isTmp (x : Operand) (d : Nat) : Bool :=
  match x with
  | .tmp t => t == d
  | _ => false

def feeds1 (d : Nat) (o : Oper) : Bool :=
  match o.op with
  | .call c => match c.callee with
    | .builtin b => match b with
      | .append => match c.args[0]? with
        | some x => isTmp x d
        | none => false
      | _ => false
    | _ => false
  | _ => false

def feeds (rest : List Oper) (d : Option Tmp) : Bool :=
  match d with
  | some d => rest.any (feeds1 d)
  | none => false

def atake (G : Nat → AV) (env : AEnv) (σ : AState) (x : Operand) (d : Option Tmp) (K : AEnv → AState → Prop) : Prop :=
  match x with
  | .tmp t => K (aput (env.set t (env.getD t .u).pl) d (env.getD t .u)) σ
  | x => K (aput env d (ev G env x)) σ

/-- A value of one cell. -/
def one : AV → Bool
  | .u | .agg _ | .tup _ | .val _ => false
  | _ => true

def takeK (K : AEnv → AState → Prop) (env : AEnv) (σ : AState) (id off : Nat) (d : Option Tmp) (cs : List AV) (c : AV) : Prop := one c = true ∧ K (aput env d c) (σ.set id (.cells (cs.set off c.pl)))

def aloadTake (P : Program) (env : AEnv) (σ : AState) (t : TypeId) (x : AV) (d : Option Tmp) (K : AEnv → AState → Prop) : Prop :=
  match P.underlying t with
  | some dd => if aggT dd then False else match x with
    | .pm id off => match σ[id]? with
      | some (.cells cs) => optK cs[off]? (takeK K env σ id off d cs)
      | _ => False
    | x => optK (readC σ x) (plK (Kv K env σ d))
  | none => False

def setPl (env : AEnv) (x : Operand) : AEnv :=
  match x with
  | .tmp t => env.set t (env.getD t .u).pl
  | _ => env

def abox (G : Nat → AV) (env : AEnv) (σ : AState) (x : Operand) (d : Option Tmp) (K : AEnv → AState → Prop) : Prop :=
  match ev G env x with
  | .agg cs => K (aput env d (.pm σ.length 0)) (σ ++ [.cells (cs.map AV.st)])
  | c => one c = true ∧ K (aput (setPl env x) d (.pm σ.length 0)) (σ ++ [.cells [c]])

def setN (cs : List AV) (off : Nat) : List AV → List AV
  | [] => cs
  | v :: r => setN (cs.set off v) (off + 1) r

def astore (P : Program) (G : Nat → AV) (env : AEnv) (σ : AState) (t : TypeId) (a x : Operand) (K : AEnv → AState → Prop) : Prop :=
  match ev G env a with
  | .pm id off => match σ[id]? with
    | some (.cells cs) => match ev G env x with
      | .agg vs => tsize P t = some vs.length ∧ vs.all one = true ∧ off + vs.length ≤ cs.length ∧ K env (σ.set id (.cells (setN cs off (vs.map AV.st))))
      | c => one c = true ∧ tsize P t = some 1 ∧ off < cs.length ∧ K (setPl env x) (σ.set id (.cells (cs.set off c)))
    | _ => False
  | _ => False

/-- The places of a composite's parts. -/
def places (P : Program) (t : TypeId) (i : Nat) : Option (Nat × Nat) :=
  match P.underlying t with
  | some (.struct fs) => match fs[i]? with
    | some fd => match tsize P fd.type with
      | some n => some (fd.offset, n)
      | none => none
    | none => none
  | some (.array _ e) => match tsize P e with
    | some n => some (i * n, n)
    | none => none
  | some (.slice e) => match tsize P e with
    | some n => some (i * n, n)
    | none => none
  | _ => none

def cellsOf (c : AV) : List AV :=
  match c with
  | .agg cs => cs
  | c => [c]

def known1 : AV → Bool
  | .u => false
  | .val _ => false
  | .tup _ => false
  | _ => true

def afill (P : Program) (G : Nat → AV) (env : AEnv) (t : TypeId) (cs : List AV) : List (Nat × Operand) → Option (List AV)
  | [] => some cs
  | (i, x) :: r => match places P t i with
    | some (off, n) =>
      if (known1 (ev G env x) && (cellsOf (ev G env x)).length == n && decide (off + n ≤ cs.length)) = true then afill P G env t (setN cs off ((cellsOf (ev G env x)).map AV.st)) r else none
    | none => none

/-- The sizes of a struct's fields are known. -/
def okT (P : Program) (t : TypeId) : Bool :=
  match P.underlying t with
  | some (.struct fs) => fs.toList.all fun f => (tsize P f.type).isSome
  | some (.array _ e) => (tsize P e).isSome
  | _ => false

def aggK2 (K : AV → Prop) (cs : List AV) : Prop := K (.agg cs)

def abuild (P : Program) (G : Nat → AV) (env : AEnv) (t : TypeId) (parts : List (Nat × Operand)) (K : AV → Prop) : Prop :=
  match P.underlying t with
  | some d => if aggT d then (match tzero P t with | some cs => okT P t = true ∧ optK (afill P G env t cs parts) (aggK2 K) | none => False) else False
  | none => False

def slK (K : AV → Prop) (z n : Nat) (cs : List AV) : Prop := K (.sl (.yes z) n (cs.map AV.pl))

/-- As many zeros. -/
def azeros (zs : List AV) : Nat → List AV
  | 0 => []
  | n + 1 => zs ++ azeros zs n

def abuildSlice (P : Program) (G : Nat → AV) (env : AEnv) (t : TypeId) (len : Nat) (parts : List (Nat × Operand)) (K : AV → Prop) : Prop :=
  match P.underlying t with
  | some (.slice e) => match tzero P e with
    | some zs => tsize P e = some zs.length ∧ (len * zs.length ≤ 16777216 ∧ len ≤ 16777216 ∧ zs ≠ []) ∧ optK (afill P G env t (azeros zs len) parts) (slK K zs.length len)
    | none => False
  | _ => False

def amake (P : Program) (σ : AState) (t : TypeId) (l c : AV) (K : AV → AState → Prop) : Prop :=
  match l, c with
  | .i _ l, .i _ c => match P.underlying t with
    | some (.slice e) => match tzero P e with
      | some zs => match tbytes P e with
        | some by_ => tsize P e = some zs.length ∧ zs ≠ [] ∧ (0 ≤ l ∧ l ≤ c ∧ c * by_ ≤ 140737488355328 ∧ c ≤ 281474976710656) ∧ K (.sm σ.length 0 l.toNat c.toNat zs.length) (σ ++ [.cells (azeros zs c.toNat)])
        | none => False
      | none => False
    | _ => False
  | _, _ => False

def KvS (K : AEnv → AState → Prop) (env : AEnv) (d : Option Tmp) (c : AV) (σ : AState) : Prop := K (aput env d c) σ

def one2 : AV → Bool
  | .tup _ => false
  | _ => true

/-- A component of several results is taken out. -/
def aextract (G : Nat → AV) (env : AEnv) (σ : AState) (x : Operand) (i : Nat) (d : Option Tmp) (K : AEnv → AState → Prop) : Prop :=
  match x with
  | .tmp t => match env.getD t .u with
    | .tup cs => match cs[i]? with
      | some c => one2 c = true ∧ K (aput (env.set t (.tup (cs.set i c.pl))) d c) σ
      | none => False
    | _ => False
  | _ => False

def tzv (P : Program) (t : TypeId) : Option AV := (P.info? t).bind fun i => i.zero.map cst

def failK (K : AV → Prop) (c : AV) : Prop := K (.tup [c.pl, .b false])

def atypeAssert (P : Program) (x : AV) (t : TypeId) (ok : Bool) (K : AV → Prop) : Prop :=
  match P.underlying t with
  | some (.interface _) => False
  | some _ => match x with
    | .ifc u y => if u = t then (if ok then K (.tup [y.pl, .b true]) else K y.pl) else (if ok then optK (tzv P t) (failK K) else False)
    | .nilif => if ok then optK (tzv P t) (failK K) else False
    | _ => False
  | none => False

def amakeIf (P : Program) (t : TypeId) (x : AV) (K : AV → Prop) : Prop :=
  match P.underlying t with
  | some (.interface _) => False
  | some _ => K (.ifc t x.ar)
  | none => False

def tzlen (P : Program) (t : TypeId) : Option Nat := (tzero P t).map List.length

/-- What is appended: how many elements, and their cells. -/
def asrc (σ : AState) (sz : Nat) (x : AV) : Option (Nat × List AV) :=
  match x with
  | .sl _ m ds => some (m, ds)
  | .s l => some (l.length, encB l)
  | .sm id off m _ _ => match σ[id]? with
    | some (.cells cs) => some (m, ((cs.drop off).take (m * sz)))
    | _ => none
  | _ => none

def appK (K : AEnv → AState → Prop) (env : AEnv) (σ : AState) (s : Operand) (d : Option Tmp) (sz by_ n : Nat) (cs : List AV) (r : Nat × List AV) : Prop :=
  (cs.length = n * sz ∧ r.2.length = r.1 * sz ∧ r.2.all one = true ∧ 2 * (n + r.1) * by_ ≤ 281474976710656 ∧ n + r.1 ≤ 281474976710656 ∧ 0 < sz) ∧ K (aput (setPl env s) d (.sl (.yes sz) (n + r.1) (cs ++ r.2.map AV.pl))) σ

def aappend (P : Program) (G : Nat → AV) (env : AEnv) (σ : AState) (ts : Array TypeId) (xs : Array Operand) (d : Option Tmp) (K : AEnv → AState → Prop) : Prop :=
  match ts[0]?, ts[1]?, xs[0]?, xs[1]? with
  | some t, some t', some s, some x => match P.underlying t' with
    | some (.int _) => False
    | some _ => match P.underlying t with
      | some (.slice e) => match tsize P e, tbytes P e with
        | some sz, some by_ => tzlen P e = some sz ∧ match ev G env s with
          | .sl (.yes z) n cs => z = sz ∧ optK (asrc σ sz (ev G env x)) (appK K env σ s d sz by_ n cs)
          | .sl .nil n cs => optK (asrc σ sz (ev G env x)) (appK K env σ s d sz by_ n cs)
          | _ => False
        | _, _ => False
      | _ => False
    | none => False
  | _, _, _, _ => False

/-- What comes of an append to an object of the abstract heap: in place where there is room, else a new object. -/
def appM (K : AEnv → AState → Prop) (env : AEnv) (σ : AState) (d : Option Tmp) (sz by_ : Nat) (s : AV) (r : Nat × List AV) : Prop :=
  match s with
  | .sl .nil 0 [] => (r.2.length = r.1 * sz ∧ r.2.all one = true ∧ 2 * r.1 * by_ ≤ 281474976710656 ∧ r.1 ≤ 281474976710656) ∧ (r.1 = 0 → K (aput env d (.sl .nil 0 [])) σ) ∧
      (0 < r.1 → ∀ c, r.1 ≤ c → K (aput env d (.sm σ.length 0 r.1 c sz)) (σ ++ [.cells (r.2.map AV.pl ++ List.replicate ((c - r.1) * sz) .u)]))
  | .sm id off n cap z => match σ[id]? with
    | some (.cells cs) => (z = sz ∧ off + n * sz ≤ cs.length ∧ r.2.length = r.1 * sz ∧ r.2.all one = true ∧ 2 * (n + r.1) * by_ ≤ 281474976710656 ∧ n + r.1 ≤ 281474976710656) ∧
        (n + r.1 ≤ cap → off + (n + r.1) * sz ≤ cs.length ∧ K (aput env d (.sm id off (n + r.1) cap sz)) (σ.set id (.cells (setN cs (off + n * sz) (r.2.map AV.pl))))) ∧
        (cap < n + r.1 → ∀ c, n + r.1 ≤ c → K (aput env d (.sm σ.length 0 (n + r.1) c sz)) (σ ++ [.cells (((cs.drop off).take (n * sz)).map AV.pl ++ r.2.map AV.pl ++ List.replicate ((c - (n + r.1)) * sz) .u)]))
    | _ => False
  | _ => False

def aappendM (P : Program) (G : Nat → AV) (env : AEnv) (σ : AState) (ts : Array TypeId) (xs : Array Operand) (d : Option Tmp) (K : AEnv → AState → Prop) : Prop :=
  match ts[0]?, ts[1]?, xs[0]?, xs[1]? with
  | some t, some t', some s, some x => match P.underlying t' with
    | some (.int _) => False
    | some _ => match P.underlying t with
      | some (.slice e) => match tsize P e, tbytes P e with
        | some sz, some by_ => tzlen P e = some sz ∧ optK (asrc σ sz (ev G env x)) (appM K env σ d sz by_ (ev G env s))
        | _, _ => False
      | _ => False
    | none => False
  | _, _, _, _ => False

/-- Where a key stands; 'none': not told. -/
def mfind (k : List UInt8) : List (AV × AV) → Option (Option Nat)
  | [] => some none
  | e :: es => match e.1 with
    | .s l => if k = l then some (some 0) else (mfind k es).map (·.map (· + 1))
    | _ => none

def mget (P : Program) (et : TypeId) (l : List UInt8) (es : List (AV × AV)) : Option (AV × Bool) :=
  match mfind l es with
  | some (some j) => (es[j]?).map fun e => (e.2, true)
  | some none => (tzv P et).map fun z => (z, false)
  | none => none

def mapAt (σ : AState) : AV → Option (List (AV × AV))
  | .nilmap => some []
  | .mp id => match σ[id]? with
    | some (.map es) => some es
    | _ => none
  | _ => none

def lookK (K : AV → Prop) (ok : Bool) (r : AV × Bool) : Prop :=
  match ok with
  | true => K (.tup [r.1.pl, .b r.2])
  | false => K r.1.pl

def alookup (P : Program) (σ : AState) (t : TypeId) (m k : AV) (ok : Bool) (K : AV → Prop) : Prop :=
  match P.underlying t, k with
  | some (.map kt et), .s l => P.underlying kt = some .string ∧ optK ((mapAt σ m).bind (mget P et l)) (lookK K ok)
  | _, _ => False

def putM (l : List UInt8) (c : AV) (es : List (AV × AV)) : Option Nat → List (AV × AV)
  | some j => es.set j (.s l, c)
  | none => es ++ [(.s l, c)]

def updK (K : AEnv → AState → Prop) (env : AEnv) (σ : AState) (id : Nat) (l : List UInt8) (c : AV) (es : List (AV × AV)) (r : Option Nat) : Prop := K env (σ.set id (.map (putM l c es r)))

def amapUpdate (P : Program) (G : Nat → AV) (env : AEnv) (σ : AState) (t : TypeId) (m k x : Operand) (K : AEnv → AState → Prop) : Prop :=
  match P.underlying t, ev G env m, ev G env k with
  | some (.map kt _), .mp id, .s l => match σ[id]? with
    | some (.map es) => P.underlying kt = some .string ∧ optK (mfind l es) (updK K env σ id l (ev G env x).pl es)
    | _ => False
  | _, _, _ => False

def arange (P : Program) (σ : AState) (t : TypeId) (x : AV) (K : AV → AState → Prop) : Prop :=
  match P.underlying t, x with
  | some (.map _ _), .mp id => match σ[id]? with
    | some (.map es) => K (.pm σ.length 0) (σ ++ [.it es.length [] [.mp id]])
    | _ => False
  | _, _ => False

def anext (σ : AState) (x : AV) (isStr : Bool) (K : AV → AState → Prop) : Prop :=
  match isStr, x with
  | false, .pm iid 0 => match σ[iid]? with
    | some (.it n seen [.mp mid]) => match σ[mid]? with
      | some (.map es) => n = es.length ∧ ((∀ j, j < n → j ∈ seen) → K (.tup [.b false]) σ) ∧
          (∀ (j : Nat) (e : AV × AV), es[j]? = some e → j ∉ seen → K (.tup [.b true, e.1.pl, e.2.pl]) (σ.set iid (.it n (seen ++ [j]) [.mp mid])))
      | _ => False
    | _ => False
  | _, _ => False

def entK (K : AV → Prop) (e : AV × AV) : Prop := K (.tup [e.1.pl, e.2.pl])

def aentry (σ : AState) (x : AV) (K : AV → Prop) : Prop :=
  match x with
  | .pm iid 0 => match σ[iid]? with
    | some (.it n seen [.mp mid]) => match σ[mid]? with
      | some (.map es) => n = es.length ∧ optK (seen.getLast?.bind fun j => es[j]?) (entK K)
      | _ => False
    | _ => False
  | _ => False

/-- A slice that is nil is given room: of so many noughts nothing is told. -/
def aappendZ (P : Program) (G : Nat → AV) (env : AEnv) (σ : AState) (ts : Array TypeId) (xs : Array Operand) (d : Option Tmp) (K : AEnv → AState → Prop) : Prop :=
  match ts[0]?, ts[1]?, xs[0]?, xs[1]? with
  | some t, some t', some s, some x => match P.underlying t' with
    | some (.int _) => match P.underlying t with
      | some (.slice e) => match tsize P e, tbytes P e with
        | some sz, some by_ => tzlen P e = some sz ∧ 0 < sz ∧ match ev G env s, ev G env x with
          | .sl .nil 0 [], .i k m => (0 < m ∧ 2 * m * by_ ≤ 281474976710656 ∧ m ≤ 281474976710656) ∧ ∀ c, m.toNat ≤ c → K (aput env d (.sm σ.length 0 m.toNat c sz)) (σ ++ [.cells (List.replicate (c * sz) .u)])
          | _, _ => False
        | _, _ => False
      | _ => False
    | _ => False
  | _, _, _, _ => False

/-- An append: the prover says which way ('appC.l', 'appC.r'). -/
def appC (P : Program) (G : Nat → AV) (env : AEnv) (σ : AState) (ts : Array TypeId) (xs : Array Operand) (d : Option Tmp) (K : AEnv → AState → Prop) : Prop := aappend P G env σ ts xs d K ∨ aappendM P G env σ ts xs d K ∨ aappendZ P G env σ ts xs d K

theorem appC.l {P : Program} {G : Nat → AV} {env : AEnv} {σ : AState} {ts : Array TypeId} {xs : Array Operand} {d : Option Tmp} {K : AEnv → AState → Prop} (h : aappend P G env σ ts xs d K) : appC P G env σ ts xs d K := .inl h
theorem appC.r {P : Program} {G : Nat → AV} {env : AEnv} {σ : AState} {ts : Array TypeId} {xs : Array Operand} {d : Option Tmp} {K : AEnv → AState → Prop} (h : aappendM P G env σ ts xs d K) : appC P G env σ ts xs d K := .inr (.inl h)
theorem appC.z {P : Program} {G : Nat → AV} {env : AEnv} {σ : AState} {ts : Array TypeId} {xs : Array Operand} {d : Option Tmp} {K : AEnv → AState → Prop} (h : aappendZ P G env σ ts xs d K) : appC P G env σ ts xs d K := .inr (.inr h)

def cpyK (K : AEnv → AState → Prop) (env : AEnv) (σ : AState) (d : Option Tmp) (sz id off n : Nat) (cs : List AV) (r : Nat × List AV) : Prop :=
  (r.2.length = r.1 * sz ∧ r.2.all one = true ∧ off + n * sz ≤ cs.length ∧ n ≤ 281474976710656) ∧ K (aput env d (.i .i64 ((min r.1 n : Nat) : Int))) (σ.set id (.cells (setN cs off ((r.2.take (min r.1 n * sz)).map AV.pl))))

def acopy (P : Program) (G : Nat → AV) (env : AEnv) (σ : AState) (ts : Array TypeId) (xs : Array Operand) (d : Option Tmp) (K : AEnv → AState → Prop) : Prop :=
  match ts[0]?, xs[0]?, xs[1]? with
  | some t, some s, some x => match P.underlying t with
    | some (.slice e) => match tsize P e with
      | some sz => match ev G env s with
        | .sm id off n _ _ => match σ[id]? with
          | some (.cells cs) => optK (asrc σ sz (ev G env x)) (cpyK K env σ d sz id off n cs)
          | _ => False
        | _ => False
      | none => False
    | _ => False
  | _, _, _ => False

/-- A text as bytes: new memory. -/
def abytes (P : Program) (src dst : TypeId) (x : AV) (K : AV → Prop) : Prop :=
  match P.underlying src, P.underlying dst with
  | some _, some (.slice e) => (match x with
    | .s l => P.underlying e = some (.int .u8) ∧ l.length ≤ 281474976710656 ∧ K (.sl .no l.length (encB l))
    | _ => False)
  | _, _ => acnv P src dst x K

def callK (K : AEnv → AState → Prop) (Q : AX → AEnv → AState → Prop) (env : AEnv) (d : Option Tmp) : ARes → AState → Prop
  | .ret r, σ => K (aput env d r) σ
  | .pan x, σ => Q (.panic x) env σ

def aargs (G : Nat → AV) (env : AEnv) (xs : Array Operand) : List AV := xs.toList.map fun x => (ev G env x).ar

/-- The room of a slice: told of one that is nil alone. -/
def acap (P : Program) (t : TypeId) (x : AV) (K : AV → Prop) : Prop :=
  match P.underlying t, x with
  | some (.slice _), .sl .nil 0 [] => K (.i .i64 0)
  | _, _ => False

def acall (P : Program) (G : Nat → AV) (c : Call) (ty : TypeId) (env : AEnv) (σ : AState) (d : Option Tmp) (K : AEnv → AState → Prop) (Q : AX → AEnv → AState → Prop) : Prop :=
  match c.callee with
  | .value f => match ev G env f with
    | .fn f cap => ACalls P G f (aargs G env c.args ++ cap.map AV.pl) σ (callK K Q env d)
    | .yl id => YCalls P G id (aargs G env c.args) σ (callK K Q env d)
    | _ => False
  | .builtin b => match b with
    | .len => match c.argTypes, c.args with
      | ⟨[t]⟩, ⟨[x]⟩ => alenB P σ t (ev G env x) (Kv K env σ d)
      | _, _ => False
    | .min => match c.args with
      | ⟨x :: r⟩ => optK (afold amin2 (ev G env x) (r.map (ev G env))) (plK (Kv K env σ d))
      | _ => False
    | .max => match c.args with
      | ⟨x :: r⟩ => optK (afold amax2 (ev G env x) (r.map (ev G env))) (plK (Kv K env σ d))
      | _ => False
    | .append => appC P G env σ c.argTypes c.args d K
    | .copy => acopy P G env σ c.argTypes c.args d K
    | .cap => match c.argTypes, c.args with
      | ⟨[t]⟩, ⟨[x]⟩ => acap P t (ev G env x) (Kv K env σ d)
      | _, _ => False
    | _ => False
  | _ => False

/-- A branch. -/
def brK (b : Bool) (A B : Prop) : Prop := (b = true → A) ∧ (b = false → B)

theorem brK_true (A B : Prop) : brK true A B = A := by simp [brK]
theorem brK_false (A B : Prop) : brK false A B = B := by simp [brK]

def apick (c x y : AV) (K : AV → Prop) : Prop :=
  match c with
  | .b b => brK b (K x.pl) (K y.pl)
  | _ => False

/-- What is moved: it bears no room of its own; nil stays nil. -/
def AV.pn : AV → AV
  | .sl .nil n cs => .sl .nil n cs
  | .tup cs => .tup (cs.map AV.pl)
  | c => c.pl

def aop (P : Program) (G : Nat → AV) (rest : List Oper) (o : Oper) (env : AEnv) (σ : AState) (K : AEnv → AState → Prop) (Q : AX → AEnv → AState → Prop) : Prop :=
  match o.op with
  | .assign x => atake G env σ x o.dst K
  | .move x => if feeds rest o.dst then atake G env σ x o.dst K else K (aput env o.dst (AV.pn (ev G env x))) σ
  | .load t a => if feeds rest o.dst then aloadTake P env σ t (ev G env a) o.dst K else aload P σ t (ev G env a) (Kv K env σ o.dst)
  | .alloc t => match tzero P t with
    | some cs => K (aput env o.dst (.pm σ.length 0)) (σ ++ [.cells cs])
    | none => False
  | .box t x => abox G env σ x o.dst K
  | .build t parts => abuild P G env t parts.toList (Kv K env σ o.dst)
  | .buildSlice t len parts => abuildSlice P G env t len parts.toList (Kv K env σ o.dst)
  | .store t a x => match o.dst with
    | none => astore P G env σ t a x K
    | some _ => False
  | .nilCheck x => anil (ev G env x) (Kv K env σ o.dst)
  | .binOp op t x y _ => abin P op t (ev G env x) (ev G env y) (Kv K env σ o.dst)
  | .unOp op _ x => aun op (ev G env x) (Kv K env σ o.dst)
  | .convert src dst x => abytes P src dst (ev G env x) (Kv K env σ o.dst)
  | .makeInterface t x => amakeIf P t (ev G env x) (Kv K env σ o.dst)
  | .makeFunc f first cap => match f, first with
    | .func f, ⟨[]⟩ => Kv K env σ o.dst (.fn f (cap.toList.map fun x => (ev G env x).ar))
    | _, _ => False
  | .makeSlice t l c => amake P σ t (ev G env l) (ev G env c) (KvS K env o.dst)
  | .slice t x lo hi mx => aslice P t (ev G env x) (lo.map (ev G env)) (hi.map (ev G env)) (mx.map (ev G env)) (Kv K env σ o.dst)
  | .fieldAddr s x f => afieldAddr P s (ev G env x) f (Kv K env σ o.dst)
  | .field t x f => afield P t (ev G env x) f (Kv K env σ o.dst)
  | .indexAddr t x i => aidx P t (ev G env x) (ev G env i) (Kv K env σ o.dst)
  | .index t x i => aindex P t (ev G env x) (ev G env i) (Kv K env σ o.dst)
  | .extract x i => aextract G env σ x i o.dst K
  | .typeAssert x _ t ok => atypeAssert P (ev G env x) t ok (Kv K env σ o.dst)
  | .call c => acall P G c o.type env σ o.dst K Q
  | .panic x => match ev G env x with
    | .ifc t y => Q (.panic (.ifc t y)) env σ
    | _ => False
  | .pick c x y => apick (ev G env c) (ev G env x) (ev G env y) (Kv K env σ o.dst)
  | .makeMap t r => match r with
    | none => K (aput env o.dst (.mp σ.length)) (σ ++ [.map []])
    | some _ => False
  | .mapUpdate t m k x => match o.dst with
    | none => amapUpdate P G env σ t m k x K
    | some _ => False
  | .lookup t m k ok => alookup P σ t (ev G env m) (ev G env k) ok (Kv K env σ o.dst)
  | .range t x => arange P σ t (ev G env x) (KvS K env o.dst)
  | .next x isStr => anext σ (ev G env x) isStr (KvS K env o.dst)
  | .entry x => aentry σ (ev G env x) (Kv K env σ o.dst)
  | _ => False

/-- Is the operation wanted? 'none': that is not told. -/
def gval (ops : List Oper) (env : AEnv) (o : Oper) : Option Bool :=
  match o.guard with
  | none => some true
  | some (j, want) => match ops[j]? with
    | some oj => match oj.dst with
      | some t => match env[t]? with
        | some (.b x) => some (x == want)
        | some (.tup []) => some false
        | _ => none
      | none => none
    | none => none

def awOps (P : Program) (G : Nat → AV) (ops : List Oper) (Q : AX → AEnv → AState → Prop) : List Oper → AEnv → AState → Prop
  | [], env, σ => Q .normal env σ
  | o :: rest, env, σ => match gval ops env o with
    | some b => brK b (aop P G rest o env σ (awOps P G ops Q rest) Q) (awOps P G ops Q rest (aput env o.dst (.tup [])) σ)
    | none => False

end Go.Proofs.Ytoofpdmdgofdcaa.E

namespace Go.Proofs.Ytoofpdmdgofdcaa.E
open Go Go.RowKit
set_option linter.unusedVariables false
set_option linter.unusedSimpArgs false

variable {P : Program}

/-- What is known of the package variables bears no room. -/
def GPl (G : Nat → AV) : Prop := ∀ n, (∀ z k cs, G n ≠ .sl (.yes z) k cs) ∧ ∀ cs, G n ≠ .tup cs

theorem ownOK_of_ne {g : Gh} {s : Slot} {c : AV} {v : Value} (h : ∀ z k cs, c ≠ .sl (.yes z) k cs) : OwnOK g s c v := by
  cases c with
  | sl o n cs => cases o <;> first | exact absurd rfl (h _ _ _) | simp [OwnOK]
  | _ => simp [OwnOK]

theorem GOK.ext {G : Nat → AV} {g g' : Gh} {w w' : World} (h : GOK G g) (hx : Ext g w g' w') : GOK G g' := fun n => (h n).ext hx

/-- What follows an operation: 'K' of the abstract state is enough for 'next' of the machine's. -/
def NextOK (g0 : Gh) (w0 : World) (D : List Deferred) (K : AEnv → AState → Prop) (next : Act → World → Prop) : Prop := ∀ env σ a w, K env σ → Inv g0 w0 D env σ a w → next a w

def PanOK (g0 : Gh) (w0 : World) (D : List Deferred) (Q : AX → AEnv → AState → Prop) (QQ : Exit → Act → World → Prop) : Prop :=
  ∀ x env σ a w v g, Q (.panic x) env σ → a.defers = D → Ext g0 w0 g w → Sim g σ w → R g.S g.ρ x v → QQ (.panic [{ v, recovered := false }]) a w

theorem callsIn_FW {r : Option Nat} {n : Nat} {f : FuncId} {args : Array Value} {w : World} {R : Ending → World → Prop} (h : Calls P f args w R) : CallsIn (FW r) n P f args w R :=
  (callsIn_wide (n := n)).2 h

/-- A machine's step that has given a value. -/
def Stp (P : Program) (o : Oper) (a : Act) (w : World) (next : Act → World → Prop) (QQ : Exit → Act → World → Prop) : Prop :=
  ∀ (r : Option Nat) (n : Nat), Oper.uponIn (FW r) n P o a next QQ ((execOp a.eval o).run P w)

theorem EnvOK.put' {g : Gh} {env : AEnv} {tmps : Array Value} (h : EnvOK g env tmps) (d : Option Tmp) {c : AV} {v : Value} (hr : R g.S g.ρ c v) (ho : ∀ i, d = some i → TopOwn g i c v) (a : Act) (ha : a.tmps = tmps) : EnvOK g (aput env d c) (a.put d v).tmps := by
  subst ha
  cases d with
  | none => exact h
  | some d => exact h.put hr (ho d rfl)

theorem put_defers (a : Act) (d : Option Tmp) (v : Value) : (a.put d v).defers = a.defers := by cases d <;> rfl

theorem stp_value {o : Oper} {a : Act} {w w' : World} {v : Value} {next : Act → World → Prop} {QQ : Exit → Act → World → Prop} (hr : (execOp a.eval o).run P w = .ok (.value v) w') (h : next (a.put o.dst v) w') : Stp P o a w next QQ :=
  fun r n => by rw [hr]; exact h

theorem stp_skip {o : Oper} {a : Act} {w w' : World} {next : Act → World → Prop} {QQ : Exit → Act → World → Prop} (hr : (execOp a.eval o).run P w = .ok .skip w') (h : next (a.put o.dst undef) w') : Stp P o a w next QQ :=
  fun r n => by rw [hr]; exact h

section
variable {G : Nat → AV} {g0 : Gh} {w0 : World} {D : List Deferred} {env : AEnv} {σ : AState} {a : Act} {w : World} {K : AEnv → AState → Prop} {Q : AX → AEnv → AState → Prop} {next : Act → World → Prop} {QQ : Exit → Act → World → Prop}

/-- An operation that gives a value and leaves the world alone. -/
theorem stp_gives {o : Oper} {g : Gh} {s : Sem Value} (hx : Ext g0 w0 g w) (hs : Sim g σ w) (he : EnvOK g env a.tmps) (hd : a.defers = D) (hn : NextOK g0 w0 D K next) (hg : Gives P g w (Kv K env σ o.dst) s)
    (ho : execOp a.eval o = (do pure (.value (← s)))) : Stp P o a w next QQ := by
  obtain ⟨c, v, h1, h2, h3, h4⟩ := hg
  refine stp_value (w' := w) (v := v) (by rw [ho]; simp [h1]) (hn _ _ _ _ h4 ⟨by rw [put_defers]; exact hd, g, hx, hs, he.put' o.dst h2 (fun i _ => h3 g i v) a rfl⟩)

/-- The same, where a new row of cells that do not change any more is laid. -/
theorem stp_row {o : Oper} {g : Gh} {c : AV} {v : Value} {w' : World} (hx : Ext g0 w0 g w) (hd : a.defers = D) (hn : NextOK g0 w0 D K next) (vs : Array Value) (E : TypeId) (fr : Nat × Nat) (he : EnvOK g env a.tmps) (hs : Sim g σ w)
    (hw : ∃ m, w' = { w.alloc (.cells vs E fr) with drawn := m }) (hr : R (Imm.ext g.S w.heap.size vs) g.ρ c v) (hp : ∀ i, TopOwn { g with S := Imm.ext g.S w.heap.size vs } i c v) (hk : K (aput env o.dst c) σ)
    (ho : (execOp a.eval o).run P w = .ok (.value v) w') : Stp P o a w next QQ := by
  obtain ⟨m, rfl⟩ := hw
  have h1 := Ext.alloc_imm hs vs E fr
  have h2 := Sim.alloc_imm hs vs E fr
  refine stp_value ho (hn _ _ _ _ hk ?_)
  have hi : Inv g0 w0 D (aput env o.dst c) σ (a.put o.dst v) (w.alloc (.cells vs E fr)) := by
    refine ⟨by rw [put_defers]; exact hd, _, hx.trans h1, h2, ?_⟩
    exact EnvOK.put' ⟨he.1, fun i c v hc hv => ⟨(he.2 i c v hc hv).1.ext h1, (he.2 i c v hc hv).2⟩⟩ o.dst hr (fun i _ => hp i) a rfl
  exact hi.drew m

theorem R.ar {S : Imm} {ρ : List Nat} {c : AV} {v : Value} (h : R S ρ c v) : R S ρ c.ar v := by
  cases h with
  | agg cs vs hl h =>
    refine .agg _ _ (by simp [hl]) fun j c v hc hv => ?_
    simp only [List.getElem?_map, Option.map_eq_some_iff] at hc
    obtain ⟨c0, hc0, rfl⟩ := hc
    exact (h j c0 v hc0 hv).pl
  | u v => exact (R.u v).pl
  | b x => exact .b x
  | i k n h => exact .i k n h
  | s l h => exact .s l h
  | nilp => exact .nilp
  | nilfn => exact .nilfn
  | nilif => exact .nilif
  | nilmap => exact .nilmap
  | tup cs vs hl h => exact (R.tup cs vs hl h).pl
  | sl0 o => cases o <;> exact .sl0 _
  | sl o ho n cs bk off cap hn hc vs h1 h =>
    cases o with
    | nil => exact absurd rfl ho
    | _ => exact .sl .no (by simp) n cs bk off cap hn hc vs h1 h
  | sm id off n cap z bk hb hn hc => exact .sm id off n cap z bk hb hn hc
  | pi cs k bk off vs h1 h => exact .pi cs k bk off vs h1 h
  | pm id off bk hb => exact .pm id off bk hb
  | mp id bk hb => exact .mp id bk hb
  | yl id bk hb => exact .yl id bk hb
  | fn f cs vs hl h => exact .fn f cs vs hl h
  | ifc t x v h => exact .ifc t x v h
  | val => exact .val _

theorem ownOK_ar (g : Gh) (s : Slot) (c : AV) (v : Value) : OwnOK g s c.ar v := by
  cases c with
  | sl o n cs => cases o <;> simp [AV.ar, AV.pl, OwnOK]
  | _ => simp [AV.ar, AV.pl, OwnOK]

theorem ar_tup (c : AV) (cs : List AV) : c.ar ≠ .tup cs := by
  cases c with
  | sl o n cs => cases o <;> simp [AV.ar, AV.pl]
  | _ => simp [AV.ar, AV.pl]

theorem R.st {S : Imm} {ρ : List Nat} {c : AV} {v : Value} (h : R S ρ c v) : R S ρ c.st v := by
  cases h with
  | sl0 o => cases o <;> exact .sl0 _
  | sl o ho n cs bk off cap hn hc vs h1 h =>
    cases o with
    | no => exact .sl .no (by simp) n cs bk off cap hn hc vs h1 h
    | yes z => exact .sl .no (by simp) n cs bk off cap hn hc vs h1 h
    | nil => exact absurd rfl ho
  | tup cs vs hl h => exact .u _
  | u v => exact .u v
  | b x => exact .b x
  | i k n h => exact .i k n h
  | s l h => exact .s l h
  | nilp => exact .nilp
  | nilfn => exact .nilfn
  | nilif => exact .nilif
  | nilmap => exact .nilmap
  | agg cs vs hl h => exact .agg cs vs hl h
  | sm id off n cap z bk hb hn hc => exact .sm id off n cap z bk hb hn hc
  | pi cs k bk off vs h1 h => exact .pi cs k bk off vs h1 h
  | pm id off bk hb => exact .pm id off bk hb
  | mp id bk hb => exact .mp id bk hb
  | yl id bk hb => exact .yl id bk hb
  | fn f cs vs hl h => exact .fn f cs vs hl h
  | ifc t x v h => exact .ifc t x v h
  | val => exact .val _

theorem ownOK_st (g : Gh) (s : Slot) (c : AV) (v : Value) : OwnOK g s c.st v := by
  cases c with
  | sl o n cs => cases o <;> simp [AV.st, OwnOK]
  | _ => simp [AV.st, OwnOK]

/-- Slots renamed. -/
def ren (f : Slot → Slot) (ow : Nat → Option (Slot × Nat × Nat)) : Nat → Option (Slot × Nat × Nat) := fun bk => (ow bk).map fun x => (f x.1, x.2)

theorem Sim.ren {g : Gh} (hs : Sim g σ w) (f : Slot → Slot) (hf : ∀ id j, f (.o id j) = .o id j) : Sim { g with ow := ren f g.ow } σ w :=
  hs.re_own _ (fun bk x h => by
      unfold E.ren at h
      cases e : g.ow bk with
      | none => rw [e] at h; cases h
      | some y => rw [e] at h; cases h; exact ⟨y.1, rfl⟩)
    (fun bk id j h e => by simp [E.ren, e, hf])

theorem Ext.ren {g : Gh} (f : Slot → Slot) : Ext g w { g with ow := E.ren f g.ow } w where
  os := rfl
  tape := rfl
  output := rfl
  size := Nat.le_refl _
  S := fun _ _ _ h => h
  ρ := fun _ _ h => h
  keep := fun _ _ _ _ => ⟨rfl, fun _ => rfl⟩
  newρ := fun id _ h => .inr ⟨id, h⟩
  newow := fun bk x h => .inr (fun e => by simp [E.ren, e] at h)

theorem OwnOK.ren {g : Gh} {s s' : Slot} {c : AV} {v : Value} {f : Slot → Slot} (h : OwnOK g s c v) (hf : f s = s') : OwnOK { g with ow := E.ren f g.ow } s' c v :=
  h.mono fun bk x e => by simp [E.ren, e, hf]

/-- From one temporary to another one. -/
def mvT (s d : Nat) : Slot → Slot
  | .t i k => if i = s then .t d k else .t i k
  | x => x

theorem topOwn_mv {g : Gh} {i s d : Nat} {c : AV} {v : Value} (h : TopOwn g i c v) (hi : i ≠ s) : TopOwn { g with ow := ren (mvT s d) g.ow } i c v :=
  ⟨h.1.ren (by simp [mvT, hi]), fun cs vs e1 e2 k c' v' h1 h2 => (h.2 cs vs e1 e2 k c' v' h1 h2).ren (by simp [mvT, hi])⟩

theorem topOwn_mv_to {g : Gh} {s d : Nat} {c : AV} {v : Value} (h : TopOwn g s c v) : TopOwn { g with ow := ren (mvT s d) g.ow } d c v :=
  ⟨h.1.ren (by simp [mvT]), fun cs vs e1 e2 k c' v' h1 h2 => (h.2 cs vs e1 e2 k c' v' h1 h2).ren (by simp [mvT])⟩

theorem set_getElem? {env : AEnv} {t : Nat} {c : AV} (i : Nat) : (env.set t c)[i]? = if t = i ∧ i < env.length then some c else env[i]? := by
  rw [List.getElem?_set]
  by_cases h : t = i
  · subst h
    by_cases h2 : t < env.length
    · simp [h2]
    · simp [h2]
  · simp [h]

/-- A temporary's value loses its room. -/
theorem EnvOK.setPl {g g' : Gh} {tmps : Array Value} (h : EnvOK g env tmps) (s : Nat) (hS : g'.S = g.S) (hρ : g'.ρ = g.ρ) (hg : ∀ i c v, i ≠ s → TopOwn g i c v → TopOwn g' i c v) : EnvOK g' (env.set s (env.getD s .u).pl) tmps := by
  refine ⟨by simp [h.1], fun i c v hc hv => ?_⟩
  rw [set_getElem?] at hc
  split at hc
  · rename_i e
    obtain ⟨rfl, hlt⟩ := e
    cases hc
    have h1 : env[s]? = some env[s] := List.getElem?_eq_getElem hlt
    have h2 := h.2 s _ v h1 hv
    simp only [List.getD_eq_getElem?_getD, h1, Option.getD_some]
    exact ⟨by rw [hS, hρ]; exact h2.1.pl, topOwn_pl g' s _ v⟩
  · rename_i e
    have h2 := h.2 i c v hc hv
    refine ⟨by rw [hS, hρ]; exact h2.1, ?_⟩
    by_cases e2 : i = s
    · subst e2
      have : i < env.length := (List.getElem?_eq_some_iff.1 hc).1
      exact absurd ⟨rfl, this⟩ e
    · exact hg i c v e2 h2.2

theorem topOwn_get {g : Gh} {tmps : Array Value} (h : EnvOK g env tmps) (t : Nat) : TopOwn g t (env.getD t .u) (tmps.getD t undef) := by
  by_cases hlt : t < env.length
  · have h1 : env[t]? = some (env[t]) := List.getElem?_eq_getElem hlt
    have hlt' : t < tmps.size := by rw [h.1]; exact hlt
    have h2 : tmps[t]? = some (tmps[t]) := Array.getElem?_eq_getElem hlt'
    have h3 := (h.2 t _ _ h1 h2).2
    simp only [List.getD_eq_getElem?_getD, h1, Option.getD_some]
    simp only [Array.getD_eq_getD_getElem?, h2, Option.getD_some]
    exact h3
  · rw [List.getD_eq_getElem?_getD, List.getElem?_eq_none (by omega)]
    exact pl_mk (by simp) (by simp) g t _

theorem cst_ne (c : Value) (z n : Nat) (cs : List AV) : cst c ≠ .sl (.yes z) n cs := by
  unfold cst cst0
  (repeat' split) <;> simp

theorem topOwn_cst (g : Gh) (i : Nat) {c : Value} {v : Value} : TopOwn g i (cst c) v := by
  refine ⟨?_, ?_⟩
  · unfold OwnOK
    split
    · rename_i h
      exact absurd h (cst_ne _ _ _ _)
    · trivial
  · intro cs vs h1 h2 k c' v' h3 h4
    have : cs = [] := by
      unfold cst cst0 at h1
      (repeat' split at h1) <;> simp_all
    subst this
    simp at h3

theorem topOwn_ev {g : Gh} (hG : GOK G g) (i : Nat) (x : Operand) (hx : ∀ t, x ≠ .tmp t) (hGp : GPl G) : TopOwn g i (ev G env x) (a.eval x) := by
  cases x with
  | tmp t => exact absurd rfl (hx t)
  | const v => exact topOwn_cst g i
  | global n => exact pl_mk (hGp n).1 (hGp n).2 g i _
  | func f => exact pl_mk (by simp [ev]) (by simp [ev]) g i _

/-- A value is taken over, with its room. -/
theorem stp_take {o : Oper} {g : Gh} {x : Operand} (hx : Ext g0 w0 g w) (hs : Sim g σ w) (he : EnvOK g env a.tmps) (hG : GOK G g) (hGp : GPl G) (hd : a.defers = D) (hn : NextOK g0 w0 D K next)
    (h : atake G env σ x o.dst K) (ho : execOp a.eval o = pure (.value (a.eval x))) : Stp P o a w next QQ := by
  refine stp_value (w' := w) (v := a.eval x) (by rw [ho]; simp) ?_
  unfold atake at h
  split at h
  · rename_i t
    cases hdst : o.dst with
    | none =>
      rw [hdst] at h
      refine hn _ _ _ _ h ⟨hd, g, hx, hs, ?_⟩
      exact he.setPl t rfl rfl (fun _ _ _ _ h => h)
    | some d =>
      rw [hdst] at h
      refine hn _ _ _ _ h ⟨hd, _, hx.trans (Ext.ren (mvT t d)), hs.ren _ (fun _ _ => rfl), ?_⟩
      have h1 : EnvOK { g with ow := ren (mvT t d) g.ow } (env.set t (env.getD t .u).pl) a.tmps := he.setPl t rfl rfl (fun i c v hi h => topOwn_mv h hi)
      exact h1.put (he.get t) (topOwn_mv_to (topOwn_get he t))
  · rename_i hne
    refine hn _ _ _ _ h ⟨by rw [put_defers]; exact hd, g, hx, hs, he.put' o.dst (R.ev hG he x) (fun i _ => topOwn_ev hG i x hne hGp) a rfl⟩

end

end Go.Proofs.Ytoofpdmdgofdcaa.E

namespace Go.Proofs.Ytoofpdmdgofdcaa.E
open Go Go.RowKit
set_option linter.unusedVariables false
set_option linter.unusedSimpArgs false

variable {P : Program}

theorem one_cell {S : Imm} {ρ : List Nat} {c : AV} {v : Value} (h : R S ρ c v) (h1 : one c = true) : v.oneCell' = true ∧ v.cells = #[v] := by
  cases h <;> first | (simp [one] at h1; done) | exact ⟨rfl, rfl⟩

section
variable {G : Nat → AV} {g0 : Gh} {w0 : World} {D : List Deferred} {env : AEnv} {σ : AState} {a : Act} {w : World} {K : AEnv → AState → Prop} {Q : AX → AEnv → AState → Prop} {next : Act → World → Prop} {QQ : Exit → Act → World → Prop}

theorem EnvOK.ext {g g' : Gh} {w w' : World} {tmps : Array Value} (h : EnvOK g env tmps) (hx : Ext g w g' w') (ho : g'.ow = g.ow) : EnvOK g' env tmps :=
  ⟨h.1, fun i c v hc hv => ⟨(h.2 i c v hc hv).1.ext hx, by
    have h2 := (h.2 i c v hc hv).2
    exact ⟨h2.1.mono (fun bk x e => by rw [ho]; exact e), fun cs vs e1 e2 k c' v' h3 h4 => (h2.2 cs vs e1 e2 k c' v' h3 h4).mono (fun bk x e => by rw [ho]; exact e)⟩⟩⟩

/-- A new object: what follows is told of the abstract heap with it. -/
theorem stp_obj {o : Oper} {g : Gh} (hx : Ext g0 w0 g w) (hs : Sim g σ w) (he : EnvOK g env a.tmps) (hd : a.defers = D) (hn : NextOK g0 w0 D K next) (cs : List AV) (vs : Array Value) (E : TypeId) (hl : vs.size = cs.length)
    (hr : ∀ (j : Nat) (c : AV) (v : Value), cs[j]? = some c → vs[j]? = some v → R g.S g.ρ c v ∧ OwnOK g (.o σ.length j) c v)
    {c : AV} {v : Value} (hc : R g.S (g.ρ ++ [w.heap.size]) c v) (hp : Pl c) (hk : K (aput env o.dst c) (σ ++ [.cells cs])) (ho : (execOp a.eval o).run P w = .ok (.value v) (w.alloc (.cells vs E))) : Stp P o a w next QQ := by
  have h1 := Ext.alloc_obj hs (.cells vs E)
  refine stp_value ho (hn _ _ _ _ hk ⟨by rw [put_defers]; exact hd, _, hx.trans h1, hs.alloc_obj cs vs E hl (fun j c v hc hv => ⟨(hr j c v hc hv).1.ext h1, (hr j c v hc hv).2⟩), ?_⟩)
  exact (he.ext h1 rfl).put' o.dst hc (fun i _ => hp _ i v) a rfl

theorem zero_of {t : TypeId} {cs : List AV} (h : tzero P t = some cs) : ∃ i z, P.info? t = some i ∧ i.zero = some z ∧ cs = z.cells.toList.map cst0 := by
  unfold tzero at h
  cases e : P.info? t with
  | none => rw [e] at h; cases h
  | some i =>
    rw [e] at h
    simp only [Option.bind_some, Option.map_eq_some_iff] at h
    obtain ⟨z, h1, h2⟩ := h
    exact ⟨i, z, rfl, h1, h2.symm⟩

theorem run_zero {t : TypeId} {i : TypeInfo} {z : Value} (h : P.info? t = some i) (hz : i.zero = some z) (w : World) : (zeroValue t).run P w = .ok z w := by
  simp [zeroValue, run_ti h, hz]

theorem cst0_ne (c : Value) (z n : Nat) (cs : List AV) : cst0 c ≠ .sl (.yes z) n cs := by
  unfold cst0
  (repeat' split) <;> simp

theorem ownOK_cst0 (g : Gh) (s : Slot) (c v : Value) : OwnOK g s (cst0 c) v := by
  unfold OwnOK
  split
  · rename_i h
    exact absurd h (cst0_ne _ _ _ _)
  · trivial

theorem stp_alloc {o : Oper} {g : Gh} {t : TypeId} {cs : List AV} (hx : Ext g0 w0 g w) (hs : Sim g σ w) (he : EnvOK g env a.tmps) (hd : a.defers = D) (hn : NextOK g0 w0 D K next) (hz : tzero P t = some cs)
    (hk : K (aput env o.dst (.pm σ.length 0)) (σ ++ [.cells cs])) (ho : execOp a.eval o = (do pure (.value (← Instr.alloc t true (.tuple #[]))))) : Stp P o a w next QQ := by
  obtain ⟨i, z, h1, h2, rfl⟩ := zero_of hz
  refine stp_obj (v := .pointer (some ⟨w.heap.size, 0, none⟩)) hx hs he hd hn (z.cells.toList.map cst0) z.cells t (by simp) (fun j c v hc hv => ?_) (.pm _ _ _ ?_) (pl_mk (by simp) (by simp)) hk ?_
  · simp only [List.getElem?_map, Array.getElem?_toList, hv, Option.map_some, Option.some.injEq] at hc
    subst hc
    exact ⟨R.cst0 _ _ v, ownOK_cst0 _ _ _ _⟩
  · rw [← hs.len]; simp
  · rw [ho]
    simp only [Instr.alloc, Sem.run_bind, run_zero h1 h2, newVar, newRow, Result.andThen_ok, run_newObj, Sem.run_pure]
    rfl

/-- From a temporary into a cell. -/
def mvO (s id j : Nat) : Slot → Slot
  | .t i k => if i = s ∧ k = 0 then .o id j else .t i k
  | x => x

theorem topOwn_mvO {g : Gh} {i s id j : Nat} {c : AV} {v : Value} (h : TopOwn g i c v) (hi : i ≠ s) : TopOwn { g with ow := ren (mvO s id j) g.ow } i c v :=
  ⟨h.1.ren (by simp [mvO, hi]), fun cs vs e1 e2 k c' v' h1 h2 => (h.2 cs vs e1 e2 k c' v' h1 h2).ren (by simp [mvO])⟩

/-- The room of an operand's value, handed to a cell: a new owner, and the environment without it. -/
theorem take_to {g : Gh} (hs : Sim g σ w) (he : EnvOK g env a.tmps) (hG : GOK G g) (hGp : GPl G) (x : Operand) (id j : Nat) :
    ∃ g', Ext g w g' w ∧ Sim g' σ w ∧ EnvOK g' (setPl env x) a.tmps ∧ OwnOK g' (.o id j) (ev G env x) (a.eval x) ∧ g'.S = g.S ∧ g'.ρ = g.ρ := by
  cases x with
  | tmp t =>
    refine ⟨_, Ext.ren (mvO t id j), hs.ren _ (fun _ _ => rfl), he.setPl t rfl rfl (fun i c v hi h => topOwn_mvO h hi), (topOwn_get he t).1.ren (by simp [mvO]), rfl, rfl⟩
  | const v =>
    exact ⟨g, Ext.refl g w, hs, he, ownOK_of_ne (cst_ne v), rfl, rfl⟩
  | global n => exact ⟨g, Ext.refl g w, hs, he, ownOK_of_ne (hGp n).1, rfl, rfl⟩
  | func f => exact ⟨g, Ext.refl g w, hs, he, by simp [ev, OwnOK], rfl, rfl⟩


theorem stp_box {o : Oper} {g : Gh} {t : TypeId} {x : Operand} (hx : Ext g0 w0 g w) (hs : Sim g σ w) (he : EnvOK g env a.tmps) (hG : GOK G g) (hGp : GPl G) (hd : a.defers = D) (hn : NextOK g0 w0 D K next)
    (h : abox G env σ x o.dst K) (ho : execOp a.eval o = (do pure (.value (← Instr.box t (a.eval x))))) : Stp P o a w next QQ := by
  have hr := R.ev hG he x
  have hrun : (execOp a.eval o).run P w = .ok (.value (.pointer (some ⟨w.heap.size, 0, none⟩))) (w.alloc (.cells (a.eval x).cells t)) := by
    rw [ho]
    simp only [Instr.box, Sem.run_bind, newVar, newRow, Result.andThen_ok, run_newObj, Sem.run_pure]
    rfl
  unfold abox at h
  split at h
  · rename_i cs hev
    rw [hev] at hr
    generalize hv : a.eval x = v at hr hrun
    cases hr with
    | agg _ vs hl hR =>
      refine stp_obj hx hs he hd hn (cs.map AV.st) vs t (by simp [hl]) (fun j c v hc hv => ?_) (.pm _ _ _ ?_) (pl_mk (by simp) (by simp)) h hrun
      · simp only [List.getElem?_map, Option.map_eq_some_iff] at hc
        obtain ⟨c0, hc0, rfl⟩ := hc
        exact ⟨(hR j c0 v hc0 hv).st, ownOK_st _ _ _ _⟩
      · rw [← hs.len]; simp
  · rename_i hna
    obtain ⟨h1, hk⟩ := h
    obtain ⟨h2, h3⟩ := one_cell hr h1
    obtain ⟨g', e1, e2, e3, e4, e5, e6⟩ := take_to hs he hG hGp x σ.length 0
    rw [h3] at hrun
    refine stp_obj (hx.trans e1) e2 e3 hd hn [ev G env x] #[a.eval x] t rfl (fun j c v hc hv => ?_) (.pm _ _ _ ?_) (pl_mk (by simp) (by simp)) hk hrun
    · cases j with
      | zero =>
        simp at hc hv
        subst hc
        subst hv
        exact ⟨by rw [e5, e6]; exact hr, e4⟩
      | succ j => simp at hc
    · rw [e6, ← hs.len]; simp

/-- Cell by cell. -/
theorem storeCells_sim {g : Gh} {id bk : Nat} (hb : g.ρ[id]? = some bk) : ∀ (cs : List AV) (us : List Value) (i off : Nat) (σ : AState) (w : World) (cur : List AV), Sim g σ w → σ[id]? = some (.cells cur) → off + i + cs.length ≤ cur.length → us.length = cs.length →
    (∀ (j : Nat) (c : AV) (v : Value), cs[j]? = some c → us[j]? = some v → R g.S g.ρ c v ∧ OwnOK g (.o id (off + i + j)) c v ∧ v.oneCell' = true) →
    ∃ w', (storeCells ⟨bk, off, none⟩ us i).run P w = .ok () w' ∧ Sim g (σ.set id (.cells (setN cur (off + i) cs))) w' ∧ Ext g w g w'
  | [], us, i, off, σ, w, cur, hs, ho, hle, hl, hR => by
    cases us with
    | cons _ _ => simp at hl
    | nil =>
      refine ⟨w, by simp [storeCells], ?_, Ext.refl g w⟩
      have e : σ.set id (.cells cur) = σ := by
        apply List.ext_getElem?
        intro k
        rw [List.getElem?_set]
        by_cases h : id = k
        · subst h
          obtain ⟨h1, h2⟩ := List.getElem?_eq_some_iff.1 ho
          simp [h1, h2]
        · simp [h]
      simp only [setN, e]
      exact hs
  | c :: cs, us, i, off, σ, w, cur, hs, ho, hle, hl, hR => by
    cases us with
    | nil => simp at hl
    | cons u us =>
      obtain ⟨h1, h2, h3⟩ := hR 0 c u rfl rfl
      have hlt : off + i < cur.length := by simp at hle; omega
      obtain ⟨b1, vs, E, fr, k2, k3, k4, k5, k6, k7, k8⟩ := hs.obj id _ ho
      rw [hb] at k2
      cases k2
      have hcell : w.cell? ⟨bk, off + i, none⟩ = some (vs[off + i]'(by omega)) := by
        rw [cell_cells k3]
        exact Array.getElem?_eq_getElem (by omega)
      have hfz : w.frozen? ⟨bk, off + i, none⟩ = false := by
        obtain ⟨lo, hi⟩ := fr
        have k5' : ¬ (lo ≤ off + i ∧ off + i < hi) := k5 (off + i) (Nat.zero_le _) (by omega)
        simp only [World.frozen?, k3, Bool.and_eq_false_iff, decide_eq_false_iff_not]
        omega
      have hset := hs.setCell ho hb h1 h2
      have hx := Ext.setCell (σ := σ) (w := w) (off := off + i) (u := u) hb
      have hid : id < σ.length := (List.getElem?_eq_some_iff.1 ho).1
      obtain ⟨w', r1, r2, r3⟩ := storeCells_sim hb cs us (i + 1) off (σ.set id (.cells (cur.set (off + i) c))) (w.setCell ⟨bk, off + i, none⟩ u) (cur.set (off + i) c) hset (by simp [hid])
        (by simp at hle ⊢; omega) (by simpa using hl) (fun j c v hc hv => by
          have := hR (j + 1) c v hc hv
          rw [show off + (i + 1) + j = off + i + (j + 1) by omega]
          exact this)
      refine ⟨w', ?_, ?_, hx.trans r3⟩
      · simp only [storeCells, Sem.run_bind, add_mk, run_store P w _ u _ h3, hcell, hfz, Bool.false_eq_true, if_false, Result.andThen_ok]
        exact r1
      · simp only [setN]
        rw [List.set_set] at r2
        exact r2

theorem cells_agg (vs : Array Value) : (Value.agg vs).cells = vs := rfl

theorem stp_store {o : Oper} {g : Gh} {t : TypeId} {p x : Operand} (hx : Ext g0 w0 g w) (hs : Sim g σ w) (he : EnvOK g env a.tmps) (hG : GOK G g) (hGp : GPl G) (hd : a.defers = D) (hn : NextOK g0 w0 D K next)
    (h : astore P G env σ t p x K) (hdst : o.dst = none) (ho : execOp a.eval o = (do Instr.storeAt t (a.eval p) (a.eval x); pure .skip)) : Stp P o a w next QQ := by
  have hr := R.ev hG he x
  have hp := R.ev hG he p
  unfold astore at h
  split at h <;> try exact h.elim
  rename_i id off hpe
  rw [hpe] at hp
  generalize hpv : a.eval p = pv at hp ho
  cases hp with
  | pm _ _ bk hb =>
  split at h <;> try exact h.elim
  rename_i cur hobj
  split at h
  · rename_i vs hev
    obtain ⟨h1, h2, h3, hk⟩ := h
    rw [hev] at hr
    generalize hv : a.eval x = v at hr ho
    cases hr with
    | agg _ us hl hR =>
      obtain ⟨w', r1, r2, r3⟩ := storeCells_sim (P := P) hb (vs.map AV.st) us.toList 0 off σ w cur hs hobj (by simpa using h3) (by simp [hl]) (fun j c v hc hv => by
        simp only [List.getElem?_map, Option.map_eq_some_iff] at hc
        obtain ⟨c0, hc0, rfl⟩ := hc
        have hv' : us[j]? = some v := by simpa using hv
        have ho1 : one c0 = true := by
          rw [List.all_eq_true] at h2
          exact h2 c0 (List.mem_of_getElem? hc0)
        exact ⟨(hR j c0 v hc0 hv').st, ownOK_st _ _ _ _, (one_cell (hR j c0 v hc0 hv') ho1).1⟩)
      have hrun : (execOp a.eval o).run P w = .ok .skip w' := by
        rw [ho]
        simp only [Instr.storeAt, Instr.sureAddr, Sem.run_bind, Sem.run_pure, Result.andThen_ok, storeVar, run_size h1, cells_agg, hl, ne_eq, not_true_eq_false, if_false, r1]
      refine stp_skip hrun (hn _ _ _ _ hk ⟨by rw [put_defers]; exact hd, g, hx.trans r3, r2, ?_⟩)
      rw [hdst]
      exact he
  · obtain ⟨h1, h2, h3, hk⟩ := h
    obtain ⟨k1, k2⟩ := one_cell hr h1
    obtain ⟨g', e1, e2, e3, e4, e5, e6⟩ := take_to hs he hG hGp x id off
    obtain ⟨w', r1, r2, r3⟩ := storeCells_sim (P := P) (g := g') (id := id) (bk := bk) (by rw [e6]; exact hb) [ev G env x] [a.eval x] 0 off σ w cur e2 hobj (by simp; omega) rfl (fun j c v hc hv => by
      cases j with
      | zero =>
        simp at hc hv
        subst hc
        subst hv
        exact ⟨by rw [e5, e6]; exact hr, e4, k1⟩
      | succ j => simp at hc)
    have hrun : (execOp a.eval o).run P w = .ok .skip w' := by
      rw [ho]
      simp only [Instr.storeAt, Instr.sureAddr, Sem.run_bind, Sem.run_pure, Result.andThen_ok, storeVar, run_size h2, k2, List.size_toArray, List.length_cons, List.length_nil, Nat.zero_add, ne_eq, not_true_eq_false, if_false, r1]
    refine stp_skip hrun (hn _ _ _ _ hk ⟨by rw [put_defers]; exact hd, g', (hx.trans e1).trans r3, by simpa [setN] using r2, ?_⟩)
    rw [hdst]
    exact e3

end
end Go.Proofs.Ytoofpdmdgofdcaa.E

namespace Go.Proofs.Ytoofpdmdgofdcaa.E
open Go Go.RowKit
set_option linter.unusedVariables false
set_option linter.unusedSimpArgs false

variable {P : Program}

def mvC (id off d : Nat) : Slot → Slot
  | .o i j => if i = id ∧ j = off then .t d 0 else .o i j
  | x => x

theorem ren_some {f : Slot → Slot} {ow : Nat → Option (Slot × Nat × Nat)} {bk : Nat} {s : Slot} {x : Nat × Nat} (h : ren f ow bk = some (s, x)) : ∃ s', ow bk = some (s', x) := by
  unfold ren at h
  cases e : ow bk with
  | none => rw [e] at h; cases h
  | some y => rw [e] at h; cases h; exact ⟨y.1, rfl⟩

theorem ren_none {f : Slot → Slot} {ow : Nat → Option (Slot × Nat × Nat)} {bk : Nat} (h : ow bk = none) : ren f ow bk = none := by simp [ren, h]

theorem Sim.takeCell {g : Gh} {σ : AState} {w : World} (hs : Sim g σ w) {id off d : Nat} {cs : List AV} {c : AV} (ho : σ[id]? = some (.cells cs)) (hc : cs[off]? = some c) :
    Sim { g with ow := E.ren (mvC id off d) g.ow } (σ.set id (.cells (cs.set off c.pl))) w where
  imm := hs.imm
  len := by simp [hs.len]
  inj := hs.inj
  obj := fun j o hj => by
    by_cases e : id = j
    · subst e
      have hid : id < σ.length := (List.getElem?_eq_some_iff.1 ho).1
      simp [hid] at hj
      subst hj
      obtain ⟨bk, us, E, fr, k2, k3, k4, k5, k6, k7, k8⟩ := hs.obj id _ ho
      refine ⟨bk, us, E, fr, k2, k3, by simp [k4], k5, k6, ren_none k7, fun j c' v hc' hv => ?_⟩
      rw [set_getElem?] at hc'
      split at hc'
      · rename_i e2
        obtain ⟨rfl, _⟩ := e2
        cases hc'
        exact ⟨(k8 off c v hc hv).1.pl, ownOK_pl _ _ _ _⟩
      · rename_i e2
        refine ⟨(k8 j c' v hc' hv).1, (k8 j c' v hc' hv).2.ren ?_⟩
        have hlt : j < cs.length := (List.getElem?_eq_some_iff.1 hc').1
        have : ¬ (id = id ∧ j = off) := fun h => e2 ⟨h.2.symm, hlt⟩
        unfold mvC
        exact if_neg this
    · have e1 : (σ.set id (.cells (cs.set off c.pl)))[j]? = σ[j]? := by simp [List.getElem?_set, e]
      rw [e1] at hj
      have h1 := hs.obj j o hj
      cases o with
      | cells cs' =>
        obtain ⟨bk, us, E, fr, k2, k3, k4, k5, k6, k7, k8⟩ := h1
        refine ⟨bk, us, E, fr, k2, k3, k4, k5, k6, ren_none k7, fun k c' v hc' hv => ⟨(k8 k c' v hc' hv).1, (k8 k c' v hc' hv).2.ren ?_⟩⟩
        unfold mvC
        exact if_neg (fun h => e h.1.symm)
      | map es =>
        obtain ⟨bk, ms, clock, k2, k3, k4, k6, k7, k8⟩ := h1
        exact ⟨bk, ms, clock, k2, k3, k4, k6, ren_none k7, k8⟩
      | loop r es =>
        obtain ⟨bk, k2, k3, k4, k6, k7, k8⟩ := h1
        exact ⟨bk, k2, k3, k4, k6, ren_none k7, k8⟩
      | it itn its es =>
        obtain ⟨bk, itx, k2, k3, k4, k6, k7, k8⟩ := h1
        exact ⟨bk, itx, k2, k3, k4, k6, ren_none k7, k8⟩
  own := fun bk s hh ee ho => by
    obtain ⟨s', h⟩ := ren_some ho
    exact hs.own bk s' hh ee h

section
variable {G : Nat → AV} {g0 : Gh} {w0 : World} {D : List Deferred} {env : AEnv} {σ : AState} {a : Act} {w : World} {K : AEnv → AState → Prop} {Q : AX → AEnv → AState → Prop} {next : Act → World → Prop} {QQ : Exit → Act → World → Prop}

theorem EnvOK.mvC' {g : Gh} {tmps : Array Value} (h : EnvOK g env tmps) (id off d : Nat) : EnvOK { g with ow := ren (mvC id off d) g.ow } env tmps :=
  ⟨h.1, fun i c v hc hv => ⟨(h.2 i c v hc hv).1, (h.2 i c v hc hv).2.1.ren rfl, fun cs vs e1 e2 k c' v' h3 h4 => ((h.2 i c v hc hv).2.2 cs vs e1 e2 k c' v' h3 h4).ren rfl⟩⟩

theorem one_or {c : AV} {v : Value} {S : Imm} {ρ : List Nat} (h : R S ρ c v) (hv : v.oneCell' = true) : ∀ cs, c ≠ .tup cs := by
  intro cs e
  subst e
  cases h
  cases hv

theorem stp_loadTake {o : Oper} {g : Gh} {t : TypeId} {x : Operand} (hx : Ext g0 w0 g w) (hs : Sim g σ w) (he : EnvOK g env a.tmps) (hG : GOK G g) (hd : a.defers = D) (hn : NextOK g0 w0 D K next)
    (h : aloadTake P env σ t (ev G env x) o.dst K) (ho : execOp a.eval o = (do pure (.value (← Instr.loadAt t (a.eval x))))) : Stp P o a w next QQ := by
  have hr := R.ev hG he x
  unfold aloadTake at h
  split at h <;> try exact h.elim
  rename_i dd hu
  split at h <;> try exact h.elim
  rename_i ha
  split at h
  · rename_i id off hev
    split at h <;> try exact h.elim
    rename_i cs hobj
    obtain ⟨c, hc, hk1, hk⟩ := h
    rw [hev] at hr
    generalize hv : a.eval x = vx at hr ho
    cases hr with
    | pm _ _ bk hb =>
    obtain ⟨b1, us, E, fr, k2, k3, k4, k5, k6, k7, k8⟩ := hs.obj id _ hobj
    rw [hb] at k2
    cases k2
    have hlt : off < us.size := by rw [k4]; exact (List.getElem?_eq_some_iff.1 hc).1
    have hu2 : us[off]? = some us[off] := Array.getElem?_eq_getElem hlt
    have hcell : w.cell? ⟨bk, off, none⟩ = some us[off] := by rw [cell_cells k3, hu2]
    have hrun : (execOp a.eval o).run P w = .ok (.value us[off]) w := by
      rw [ho]
      simp only [Instr.loadAt, Instr.sureAddr, Sem.run_bind, Sem.run_pure, Result.andThen_ok, run_loadVar_one hu (by simpa using ha) hcell]
    obtain ⟨m1, m2⟩ := k8 off c _ hc hu2
    have hsim : ∀ d, Sim { g with ow := ren (mvC id off d) g.ow } (σ.set id (.cells (cs.set off c.pl))) w := fun d => hs.takeCell hobj hc
    cases hdst : o.dst with
    | none =>
      simp only [hdst, aput] at hk
      refine stp_value hrun (hn _ _ _ _ hk ⟨by rw [put_defers]; exact hd, _, hx.trans (Ext.ren (mvC id off 0)), hsim 0, ?_⟩)
      rw [hdst]
      exact he.mvC' id off 0
    | some d =>
      simp only [hdst, aput] at hk
      refine stp_value hrun (hn _ _ _ _ hk ⟨by rw [put_defers]; exact hd, _, hx.trans (Ext.ren (mvC id off d)), hsim d, ?_⟩)
      rw [hdst]
      refine (he.mvC' id off d).put (c := c) (v := us[off]) m1 ⟨m2.ren (by simp [mvC]), fun cs' vs' e1 e2 k c' v' h3 h4 => ?_⟩
      subst e1
      cases hk1
  · obtain ⟨c, hc, hk⟩ := h
    obtain ⟨bk, off, hp⟩ := ptr_of hr (.inl ⟨c, hc⟩)
    refine stp_gives hx hs he hd hn (K := K) (s := Instr.loadAt t (a.eval x)) ?_ ho
    rw [hp] at hr
    obtain ⟨v, h1, h2⟩ := readC_sound hs hr hc
    refine ⟨c.pl, v, ?_, h2.pl, Pl.pl c, hk⟩
    rw [hp]
    simp only [Instr.loadAt, Instr.sureAddr, Sem.run_bind, Sem.run_pure, Result.andThen_ok]
    exact run_loadVar_one hu (by simpa using ha) h1


/-- One component of the results of a call. -/
def mvX (s i d : Nat) : Slot → Slot
  | .t j k => if j = s ∧ k = i + 1 then .t d 0 else .t j k
  | x => x

theorem stp_extract {o : Oper} {g : Gh} {x : Operand} {i : Nat} (hx : Ext g0 w0 g w) (hs : Sim g σ w) (he : EnvOK g env a.tmps) (hd : a.defers = D) (hn : NextOK g0 w0 D K next)
    (h : aextract G env σ x i o.dst K) (ho : execOp a.eval o = (do pure (.value (← Instr.extract (a.eval x) i)))) : Stp P o a w next QQ := by
  unfold aextract at h
  split at h <;> try exact h.elim
  rename_i t
  split at h <;> try exact h.elim
  rename_i cs hev
  split at h <;> try exact h.elim
  rename_i c hc
  obtain ⟨h1, hk⟩ := h
  have hlt : t < env.length := by
    rcases Nat.lt_or_ge t env.length with h | h
    · exact h
    · rw [List.getD_eq_getElem?_getD, List.getElem?_eq_none (by omega)] at hev; cases hev
  have he1 : env[t]? = some (.tup cs) := by
    rw [List.getD_eq_getElem?_getD, List.getElem?_eq_getElem hlt] at hev
    rw [List.getElem?_eq_getElem hlt]
    simpa using hev
  have hlt2 : t < a.tmps.size := by rw [he.1]; exact hlt
  have hv1 : a.tmps[t]? = some a.tmps[t] := Array.getElem?_eq_getElem hlt2
  obtain ⟨m1, m2⟩ := he.2 t _ _ he1 hv1
  have hev2 : a.eval (.tmp t) = a.tmps[t] := by simp [Act.eval, Array.getD_eq_getD_getElem?, hv1]
  generalize a.tmps[t] = tv at hv1 m1 m2 hev2
  cases m1 with
  | tup _ vs hl hR =>
  have hlt3 : i < vs.size := by rw [hl]; exact (List.getElem?_eq_some_iff.1 hc).1
  have hvi : vs[i]? = some vs[i] := Array.getElem?_eq_getElem hlt3
  have hrun : (execOp a.eval o).run P w = .ok (.value vs[i]) w := by
    rw [ho]
    simp [hev2, Instr.extract, hvi]
  have hct : ∀ cs', c ≠ .tup cs' := fun cs' e => by subst e; cases h1
  have key : ∀ d, EnvOK { g with ow := ren (mvX t i d) g.ow } (env.set t (.tup (cs.set i c.pl))) a.tmps := fun d => by
    refine ⟨by simp [he.1], fun j c' v' hc' hv' => ?_⟩
    rw [set_getElem?] at hc'
    split at hc'
    · rename_i e
      obtain ⟨rfl, _⟩ := e
      cases hc'
      rw [hv1] at hv'
      cases hv'
      refine ⟨.tup _ _ (by simp [hl]) fun k c2 v2 h3 h4 => ?_, trivial, fun cs2 vs2 e1 e2 k c2 v2 h3 h4 => ?_⟩
      · rw [set_getElem?] at h3
        split at h3
        · rename_i e
          obtain ⟨rfl, _⟩ := e
          cases h3
          exact (hR i c v2 hc h4).pl
        · exact hR k c2 v2 h3 h4
      · cases e1
        cases e2
        rw [set_getElem?] at h3
        split at h3
        · cases h3; exact ownOK_pl _ _ _ _
        · rename_i e
          refine (m2.2 cs vs rfl rfl k c2 v2 h3 h4).ren ?_
          have : ¬ (t = t ∧ k + 1 = i + 1) := fun h => e ⟨by omega, (List.getElem?_eq_some_iff.1 h3).1⟩
          unfold mvX
          exact if_neg this
    · rename_i e
      have hj : j ≠ t := fun e2 => e ⟨e2.symm, e2 ▸ hlt⟩
      have h2 := he.2 j c' v' hc' hv'
      refine ⟨h2.1, h2.2.1.ren ?_, fun cs2 vs2 e1 e2 k c2 v2 h3 h4 => (h2.2.2 cs2 vs2 e1 e2 k c2 v2 h3 h4).ren ?_⟩ <;> (unfold mvX; exact if_neg (fun h => hj h.1))
  cases hdst : o.dst with
  | none =>
    rw [hdst] at hk
    refine stp_value hrun (hn _ _ _ _ hk ⟨by rw [put_defers]; exact hd, _, hx.trans (Ext.ren (mvX t i 0)), hs.ren _ (fun _ _ => rfl), ?_⟩)
    rw [hdst]
    exact key 0
  | some d =>
    rw [hdst] at hk
    refine stp_value hrun (hn _ _ _ _ hk ⟨by rw [put_defers]; exact hd, _, hx.trans (Ext.ren (mvX t i d)), hs.ren _ (fun _ _ => rfl), ?_⟩)
    rw [hdst]
    exact (key d).put (hR i c _ hc hvi) ⟨(m2.2 cs vs rfl rfl i c _ hc hvi).ren (by simp [mvX]), fun cs' vs' e1 => absurd e1 (hct cs')⟩

/-- What is appended or copied, read out of memory. -/
theorem asrc_run {g : Gh} {sz m : Nat} {x : AV} {vx : Value} {ds : List AV} (hs : Sim g σ w) (hx : R g.S g.ρ x vx) (h : asrc σ sz x = some (m, ds)) (hl : ds.length = m * sz) (k : Nat) (hk : k ≤ m) :
    (Builtin.lenOf vx).run P w = .ok m w ∧ ∃ us : List Value, (Builtin.firstCells sz k vx).run P w = .ok us.toArray w ∧ us.length = k * sz ∧ ∀ (j : Nat) (c : AV) (v : Value), ds[j]? = some c → us[j]? = some v → R g.S g.ρ c v := by
  have hks : k * sz ≤ m * sz := Nat.mul_le_mul_right _ hk
  unfold asrc at h
  split at h
  · rename_i o m' ds'
    cases h
    cases hx with
    | sl0 =>
      have hk0 : k = 0 := by omega
      subst hk0
      exact ⟨by simp [Builtin.lenOf], [], by simp [Builtin.firstCells], by simp, fun j c v h => by simp at h⟩
    | sl _ _ _ _ bk off cap hn hc vs hS hR =>
      refine ⟨by simp [Builtin.lenOf], (List.range (k * sz)).map vs, ?_, by simp, fun j c v h1 h2 => ?_⟩
      · have := run_loadCells (P := P) w ⟨bk, off, none⟩ (k * sz) vs (fun j hj => by
          rw [add_mk]
          have : j < ds.length := by omega
          exact hs.imm _ _ _ (hS j _ (List.getElem?_eq_getElem this)))
        simpa [Builtin.firstCells] using this
      · simp only [List.getElem?_map, Option.map_eq_some_iff] at h2
        obtain ⟨j', h3, rfl⟩ := h2
        have : j' = j := by
          have h4 := List.getElem?_eq_some_iff.1 h3
          obtain ⟨h5, h6⟩ := h4
          simpa using h6.symm
        subst this
        exact hR _ _ h1
  · rename_i l
    cases h
    have e1 : l.length = 0 ∨ sz = 1 := by
      simp only [encB, List.length_map] at hl
      rcases Nat.eq_zero_or_pos l.length with h | h
      · exact .inl h
      · refine .inr (Nat.eq_of_mul_eq_mul_left h ?_)
        omega
    have e2 : k * sz = k := by
      rcases e1 with h | h
      · have : k = 0 := by omega
        simp [this]
      · simp [h]
    cases hx with
    | s _ hll =>
      refine ⟨by simp [Builtin.lenOf, ByteArray.size], (l.take k).map (fun b => .int .u8 (b.toNat : Int)), ?_, by rw [e2]; simp; omega, fun j c v h1 h2 => ?_⟩
      · simp only [Builtin.firstCells, Sem.run_pure]
        rw [show (⟨l.toArray⟩ : ByteArray).extract 0 k = ⟨(l.take k).toArray⟩ by rw [drop_take_str]; simp]
        simp
      · simp only [encB, List.getElem?_map, Option.map_eq_some_iff] at h1 h2
        obtain ⟨b1, h3, rfl⟩ := h1
        obtain ⟨b2, h4, rfl⟩ := h2
        have : b1 = b2 := by
          have hj : j < k := by
            rcases Nat.lt_or_ge j k with h | h
            · exact h
            · rw [List.getElem?_eq_none (by simp; omega)] at h4; cases h4
          rw [List.getElem?_take_of_lt hj, h3] at h4
          exact Option.some.inj h4
        subst this
        exact .i _ _ (inR_u8 _)
  · rename_i id off m' cap z
    split at h
    · rename_i cs hobj
      cases h
      cases hx with
      | sm _ _ _ _ _ bk hb hn hc =>
        obtain ⟨b1, us, E, fr, k2, k3, k4, k5, k6, k7, k8⟩ := hs.obj id _ hobj
        rw [hb] at k2
        cases k2
        have hsz : m * sz = 0 ∨ off + m * sz ≤ us.size := by
          simp at hl
          rw [k4]
          omega
        refine ⟨by simp [Builtin.lenOf], ((us.toList.drop off).take (k * sz)), ?_, by simp; omega, fun j c v h1 h2 => ?_⟩
        · have := run_loadCells_list (P := P) w ⟨bk, off, none⟩ ((us.toList.drop off).take (k * sz)) (fun j v hj => by
            rw [add_mk, cell_cells k3]
            have hj2 : j < k * sz := by
              rcases Nat.lt_or_ge j (k * sz) with h | h
              · exact h
              · rw [List.getElem?_eq_none (by simp; omega)] at hj; cases hj
            rw [List.getElem?_take_of_lt hj2, List.getElem?_drop] at hj
            simpa using hj)
          have e : ((us.toList.drop off).take (k * sz)).length = k * sz := by simp; omega
          rw [e] at this
          simpa [Builtin.firstCells] using this
        · have hj2 : j < k * sz := by
            rcases Nat.lt_or_ge j (k * sz) with h | h
            · exact h
            · rw [List.getElem?_eq_none (by simp; omega)] at h2; cases h2
          rw [List.getElem?_take_of_lt hj2, List.getElem?_drop] at h2
          rw [List.getElem?_take_of_lt (by omega), List.getElem?_drop] at h1
          exact (k8 _ c v h1 (by simpa using h2)).1
    · cases h
  · cases h

end
end Go.Proofs.Ytoofpdmdgofdcaa.E

namespace Go.Proofs.Ytoofpdmdgofdcaa.E
open Go Go.RowKit
set_option linter.unusedVariables false
set_option linter.unusedSimpArgs false

variable {P : Program}

theorem setN_length : ∀ (vs cs : List AV) (off : Nat), (setN cs off vs).length = cs.length
  | [], cs, off => rfl
  | v :: vs, cs, off => by simp only [setN]; rw [setN_length]; simp

theorem setN_get : ∀ (vs cs : List AV) (off k : Nat), off + vs.length ≤ cs.length → (setN cs off vs)[k]? = if off ≤ k ∧ k < off + vs.length then vs[k - off]? else cs[k]?
  | [], cs, off, k, h => by simp [setN]; omega
  | v :: vs, cs, off, k, h => by
    simp only [setN]
    simp only [List.length_cons] at h
    rw [setN_get vs _ (off + 1) k (by simp; omega)]
    by_cases h1 : off + 1 ≤ k ∧ k < off + 1 + vs.length
    · rw [if_pos h1, if_pos (by simp; omega), show k - off = (k - (off + 1)) + 1 by omega]
      rfl
    · rw [if_neg h1, set_getElem?]
      by_cases h2 : off = k
      · subst h2
        rw [if_pos ⟨rfl, by omega⟩, if_pos (by simp)]
        simp
      · rw [if_neg (fun h => h2 h.1), if_neg (by simp; omega)]

theorem fold_set : ∀ (vs : List Value) (cells : Array Value) (off j k : Nat), off + j + vs.length ≤ cells.size →
    ((vs.zipIdx j).foldl (fun cs (x : Value × Nat) => cs.setIfInBounds (off + x.2) x.1) cells)[k]? = (if off + j ≤ k ∧ k < off + j + vs.length then vs[k - (off + j)]? else cells[k]?) ∧
      ((vs.zipIdx j).foldl (fun cs (x : Value × Nat) => cs.setIfInBounds (off + x.2) x.1) cells).size = cells.size
  | [], cells, off, j, k, h => by simp; omega
  | v :: vs, cells, off, j, k, h => by
    simp only [List.length_cons] at h
    simp only [List.zipIdx_cons, List.foldl_cons]
    obtain ⟨h1, h2⟩ := fold_set vs (cells.setIfInBounds (off + j) v) off (j + 1) k (by simp; omega)
    refine ⟨?_, by rw [h2]; simp⟩
    rw [h1]
    by_cases h3 : off + (j + 1) ≤ k ∧ k < off + (j + 1) + vs.length
    · rw [if_pos h3, if_pos (by simp; omega), show k - (off + j) = (k - (off + (j + 1))) + 1 by omega]
      rfl
    · rw [if_neg h3, Array.getElem?_setIfInBounds]
      by_cases h4 : off + j = k
      · subst h4
        rw [if_pos rfl, if_pos (by omega), if_pos (by simp)]
        simp
      · rw [if_neg h4, if_neg (by simp; omega)]

/-- Two rows of cells, one told by the other one. -/
def RowR (S : Imm) (ρ : List Nat) (cs : List AV) (vs : Array Value) : Prop := vs.size = cs.length ∧ ∀ (j : Nat) (c : AV) (v : Value), cs[j]? = some c → vs[j]? = some v → R S ρ c v

theorem cellsOf_R {S : Imm} {ρ : List Nat} {c : AV} {v : Value} (h : R S ρ c v) (hu : known1 c = true) : RowR S ρ (cellsOf c) v.cells := by
  have key : (∀ cs, c ≠ .agg cs) → v.cells = #[v] → cellsOf c = [c] → RowR S ρ (cellsOf c) v.cells := fun _ h1 h2 => by
    rw [h1, h2]
    refine ⟨rfl, fun j c' v' hc hv => ?_⟩
    cases j with
    | zero => simp at hc hv; subst hc; subst hv; exact h
    | succ j => simp at hc
  cases h with
  | agg cs vs hl hR => exact ⟨hl, hR⟩
  | u v => cases hu
  | tup cs vs hl hR => cases hu
  | val => cases hu
  | _ => exact key (by simp) rfl rfl

/-- No room in it. -/
theorem st_ne (c : AV) (z n : Nat) (cs : List AV) : c.st ≠ .sl (.yes z) n cs := by
  cases c with
  | sl o n cs => cases o <;> simp [AV.st]
  | _ => simp [AV.st]

def NoRoom (cs : List AV) : Prop := ∀ c ∈ cs, ∀ z n ds, c ≠ .sl (.yes z) n ds

theorem noRoom_set {cs : List AV} {off : Nat} {vs : List AV} (h : NoRoom cs) (h2 : off + vs.length ≤ cs.length) : NoRoom (setN cs off (vs.map AV.st)) := fun c hc => by
  obtain ⟨k, hk⟩ := List.getElem?_of_mem hc
  rw [setN_get _ _ _ _ (by simpa using h2)] at hk
  split at hk
  · simp only [List.getElem?_map, Option.map_eq_some_iff] at hk
    obtain ⟨c0, _, rfl⟩ := hk
    exact st_ne c0
  · exact h c (List.mem_of_getElem? hk)

theorem afill_sound {G : Nat → AV} {g : Gh} {env : AEnv} {a : Act} (hG : GOK G g) (he : EnvOK g env a.tmps) (t : TypeId) (place : Nat → Option (Nat × Nat)) (hp : ∀ i x, places P t i = some x → place i = some x) :
    ∀ (parts : List (Nat × Operand)) (cs : List AV) (cells : Array Value) (r : List AV), RowR g.S g.ρ cs cells → NoRoom cs → afill P G env t cs parts = some r →
      ∃ out, Instr.fill place cells (parts.map fun x => (x.1, a.eval x.2)) = some out ∧ RowR g.S g.ρ r out ∧ NoRoom r ∧ r.length = cs.length
  | [], cs, cells, r, hr, hn, h => by
    simp only [afill, Option.some.injEq] at h
    subst h
    exact ⟨cells, rfl, hr, hn, rfl⟩
  | (i, x) :: parts, cs, cells, r, hr, hn, h => by
    simp only [afill] at h
    split at h <;> try (cases h; done)
    rename_i off n hpl
    split at h <;> try (cases h; done)
    rename_i hc
    rw [Bool.and_eq_true, Bool.and_eq_true, beq_iff_eq, decide_eq_true_eq] at hc
    obtain ⟨⟨h1, h2⟩, h3⟩ := hc
    obtain ⟨k1, k2⟩ := cellsOf_R (R.ev hG he x) h1
    have hlen : ((cellsOf (ev G env x)).map AV.st).length = n := by simpa using h2
    have hsz : (a.eval x).cells.size = n := by rw [k1]; exact h2
    have hfs := fun k => fold_set (a.eval x).cells.toList cells off 0 k (by simp; rw [hsz, hr.1]; omega)
    have e0 : (a.eval x).cells.zipIdx.foldl (fun cs (y : Value × Nat) => cs.setIfInBounds (off + y.2) y.1) cells = (((a.eval x).cells.toList.zipIdx 0).foldl (fun cs (y : Value × Nat) => cs.setIfInBounds (off + y.2) y.1) cells) := by
      rw [← Array.foldl_toList, Array.toList_zipIdx]
    have hrow : RowR g.S g.ρ (setN cs off ((cellsOf (ev G env x)).map AV.st)) ((a.eval x).cells.zipIdx.foldl (fun cs (y : Value × Nat) => cs.setIfInBounds (off + y.2) y.1) cells) := by
      rw [e0]
      refine ⟨by rw [(hfs 0).2, setN_length]; exact hr.1, fun j c v hc hv => ?_⟩
      rw [setN_get _ _ _ _ (by rw [hlen]; exact h3), hlen] at hc
      rw [(hfs j).1] at hv
      simp only [Nat.add_zero, Array.length_toList, hsz] at hv
      split at hc
      · rename_i e
        rw [if_pos e] at hv
        simp only [List.getElem?_map, Option.map_eq_some_iff] at hc
        obtain ⟨c0, hc0, rfl⟩ := hc
        exact (k2 _ c0 v hc0 (by simpa using hv)).st
      · rename_i e
        rw [if_neg e] at hv
        exact hr.2 j c v hc hv
    obtain ⟨out, o1, o2, o3, o4⟩ := afill_sound hG he t place hp parts _ _ r hrow (noRoom_set hn (by rw [h2]; exact h3)) h
    refine ⟨out, ?_, o2, o3, by rw [o4, setN_length]⟩
    simp only [List.map_cons, Instr.fill, hp i _ hpl]
    rw [if_neg (by simp [hsz, hr.1]; omega)]
    exact o1

theorem azeros_length (zs : List AV) : ∀ n, (azeros zs n).length = n * zs.length
  | 0 => by simp [azeros]
  | n + 1 => by simp only [azeros, List.length_append, azeros_length zs n, Nat.succ_mul]; omega

theorem azeros_get (zs : List AV) (hz : zs ≠ []) : ∀ (n j : Nat), j < n * zs.length → (azeros zs n)[j]? = zs[j % zs.length]?
  | 0, j, h => by simp at h
  | n + 1, j, h => by
    have hp : 0 < zs.length := List.length_pos_iff.2 hz
    simp only [azeros]
    rcases Nat.lt_or_ge j zs.length with h1 | h1
    · rw [List.getElem?_append_left h1, Nat.mod_eq_of_lt h1]
    · rw [List.getElem?_append_right h1, azeros_get zs hz n (j - zs.length) (by rw [Nat.succ_mul] at h; omega)]
      rw [← Nat.mod_eq_sub_mod h1]

theorem azeros_row {S : Imm} {ρ : List Nat} (z : Value) (hz : z.cells.toList.map cst0 ≠ []) (n : Nat) :
    RowR S ρ (azeros (z.cells.toList.map cst0) n) ((Array.range (n * z.cells.size)).map (z.cells[· % z.cells.size]!)) ∧ NoRoom (azeros (z.cells.toList.map cst0) n) := by
  have hp : 0 < z.cells.size := by
    rcases Nat.eq_zero_or_pos z.cells.size with h | h
    · exfalso
      apply hz
      have : z.cells.toList = [] := List.eq_nil_of_length_eq_zero (by simpa using h)
      simp [this]
    · exact h
  have key : ∀ j c, (azeros (z.cells.toList.map cst0) n)[j]? = some c → j < n * z.cells.size ∧ c = cst0 (z.cells[j % z.cells.size]!) := fun j c hc => by
    have hj : j < n * z.cells.size := by
      have h1 := (List.getElem?_eq_some_iff.1 hc).1
      rw [azeros_length] at h1
      simpa using h1
    refine ⟨hj, ?_⟩
    rw [azeros_get _ hz n j (by simpa using hj)] at hc
    have hm : j % z.cells.size < z.cells.size := Nat.mod_lt _ hp
    simp only [List.length_map, Array.length_toList, List.getElem?_map, Array.getElem?_toList, Array.getElem?_eq_getElem hm, Option.map_some, Option.some.injEq] at hc
    rw [← hc]
    simp [hm]
  refine ⟨⟨by simp [azeros_length], fun j c v hc hv => ?_⟩, fun c hc => ?_⟩
  · obtain ⟨hj, rfl⟩ := key j c hc
    have : v = z.cells[j % z.cells.size]! := by
      rw [Array.getElem?_map] at hv
      simp only [Option.map_eq_some_iff] at hv
      obtain ⟨i, h1, h2⟩ := hv
      have h3 : i = j := by
        have := Array.getElem?_eq_some_iff.1 h1
        obtain ⟨h4, h5⟩ := this
        simpa using h5.symm
      rw [← h2, h3]
    rw [this]
    exact R.cst0 _ _ _
  · obtain ⟨j, hj⟩ := List.getElem?_of_mem hc
    obtain ⟨_, rfl⟩ := key j c hj
    exact cst0_ne _

end Go.Proofs.Ytoofpdmdgofdcaa.E

namespace Go.Proofs.Ytoofpdmdgofdcaa.E
open Go Go.RowKit
set_option linter.unusedVariables false
set_option linter.unusedSimpArgs false

variable {P : Program}

theorem NoRoom.own {cs : List AV} (h : NoRoom cs) {g : Gh} {s : Slot} {j : Nat} {c : AV} {v : Value} (hc : cs[j]? = some c) : OwnOK g s c v := ownOK_of_ne (h c (List.mem_of_getElem? hc))

theorem noRoom_cst0 (vs : List Value) : NoRoom (vs.map cst0) := fun c hc => by
  obtain ⟨v, _, rfl⟩ := List.mem_map.1 hc
  exact cst0_ne v

theorem mapM_places {w : World} : ∀ (fs : List Field), (fs.all fun f => (tsize P f.type).isSome) = true →
    (fs.mapM (m := Sem) fun f => do pure (f.offset, ← sizeOf f.type)).run P w = .ok (fs.map fun f => (f.offset, (tsize P f.type).getD 0)) w
  | [], h => by simp
  | f :: fs, h => by
    simp only [List.all_cons, Bool.and_eq_true] at h
    obtain ⟨h1, h2⟩ := h
    cases e : tsize P f.type with
    | none => rw [e] at h1; cases h1
    | some n =>
      rw [List.mapM_cons]
      simp only [Sem.run_bind, run_size e, Result.andThen_ok, Sem.run_pure, mapM_places fs h2, List.map_cons, e, Option.getD_some]

section
variable {G : Nat → AV} {g0 : Gh} {w0 : World} {D : List Deferred} {env : AEnv} {σ : AState} {a : Act} {w : World} {K : AEnv → AState → Prop} {Q : AX → AEnv → AState → Prop} {next : Act → World → Prop} {QQ : Exit → Act → World → Prop}

theorem abuild_sound {g : Gh} {t : TypeId} {parts : Array (Nat × Operand)} {KK : AV → Prop} (hs : Sim g σ w) (he : EnvOK g env a.tmps) (hG : GOK G g) (h : abuild P G env t parts.toList KK) :
    Gives P g w KK (Instr.build t (parts.map fun x => (x.1, a.eval x.2))) := by
  unfold abuild at h
  split at h <;> try exact h.elim
  rename_i d hu
  split at h <;> try exact h.elim
  rename_i ha
  split at h <;> try exact h.elim
  rename_i cs hz
  obtain ⟨hok, r, hr, hk⟩ := h
  obtain ⟨i, z, h1, h2, rfl⟩ := zero_of hz
  have hrow : RowR g.S g.ρ (z.cells.toList.map cst0) z.cells := ⟨by simp, fun j c v hc hv => by
    simp only [List.getElem?_map, Array.getElem?_toList, hv, Option.map_some, Option.some.injEq] at hc
    subst hc
    exact R.cst0 _ _ v⟩
  have fin : ∀ place, (∀ i x, places P t i = some x → place i = some x) → ∃ out, Instr.fill place z.cells (parts.map fun x => (x.1, a.eval x.2)).toList = some out ∧ Gives P g w KK (pure (.agg out)) := fun place hp => by
    obtain ⟨out, o1, o2, o3, o4⟩ := afill_sound hG he t place hp parts.toList _ z.cells r hrow (noRoom_cst0 _) hr
    exact ⟨out, by simpa using o1, .agg r, .agg out, by simp, .agg _ _ o2.1 o2.2, pl_mk (by simp) (by simp), hk⟩
  unfold okT at hok
  cases d with
  | struct fs =>
    rw [hu] at hok
    obtain ⟨out, o1, o2⟩ := fin (fun i => (fs.map fun f => (f.offset, (tsize P f.type).getD 0))[i]?) (fun i x hx => by
      unfold places at hx
      rw [hu] at hx
      simp only at hx
      split at hx
      · rename_i fd hfd
        split at hx
        · rename_i n hn
          cases hx
          simp [hfd, hn]
        · cases hx
      · cases hx)
    refine o2.of_eq ?_
    have hm := mapM_places (w := w) fs.toList hok
    have hm2 : (fs.mapM (m := Sem) fun f => do pure (f.offset, ← sizeOf f.type)).run P w = .ok (fs.map fun f => (f.offset, (tsize P f.type).getD 0)) w := by
      rw [Array.mapM_eq_mapM_toList]
      simp only [Sem.run_map, hm, Result.andThen_ok]
      congr 1
      apply Array.ext'
      simp
    simp only [Instr.build, Sem.run_bind, run_zero h1 h2, Result.andThen_ok, run_und hu, hm2, o1]
  | array n e =>
    rw [hu] at hok
    simp only at hok
    cases hse : tsize P e with
    | none => rw [hse] at hok; cases hok
    | some sz =>
      obtain ⟨out, o1, o2⟩ := fin (fun i => some (i * sz, sz)) (fun i x hx => by
        unfold places at hx
        rw [hu] at hx
        simp only [hse] at hx
        exact hx)
      refine o2.of_eq ?_
      simp only [Instr.build, Sem.run_bind, run_zero h1 h2, Result.andThen_ok, run_und hu, run_size hse, o1]
  | _ => cases ha

theorem zlen {z : Value} {e : TypeId} {zs : List AV} (h : zs = z.cells.toList.map cst0) : zs.length = z.cells.size := by simp [h]

theorem stp_buildSlice {o : Oper} {g : Gh} {t : TypeId} {len : Nat} {parts : Array (Nat × Operand)} (hx : Ext g0 w0 g w) (hs : Sim g σ w) (he : EnvOK g env a.tmps) (hG : GOK G g) (hd : a.defers = D) (hn : NextOK g0 w0 D K next)
    (h : abuildSlice P G env t len parts.toList (Kv K env σ o.dst)) (ho : execOp a.eval o = (do pure (.value (← Instr.buildSlice t len (parts.map fun x => (x.1, a.eval x.2)))))) : Stp P o a w next QQ := by
  unfold abuildSlice at h
  split at h <;> try exact h.elim
  rename_i e hu
  split at h <;> try exact h.elim
  rename_i zs hz
  obtain ⟨hsz, ⟨hb1, hb2, hb3⟩, r, hr, hk⟩ := h
  obtain ⟨i, z, h1, h2, rfl⟩ := zero_of hz
  obtain ⟨hrow, hnr⟩ := azeros_row (S := g.S) (ρ := g.ρ) z hb3 len
  have hzl : (z.cells.toList.map cst0).length = z.cells.size := by simp
  rw [hzl] at hsz
  obtain ⟨out, o1, o2, o3, o4⟩ := afill_sound hG he t (fun i => some (i * z.cells.size, z.cells.size)) (fun i x hx => by
    unfold places at hx
    rw [hu] at hx
    simp only [hsz] at hx
    exact hx) parts.toList _ _ r hrow hnr hr
  have hlen : out.size = len * z.cells.size := by rw [o2.1, o4, azeros_length, hzl]
  have hp : z.cells.size ≠ 0 := fun h0 => hb3 (by
    have : z.cells.toList = [] := List.eq_nil_of_length_eq_zero (by simpa using h0)
    simp [this])
  have hrun : (execOp a.eval o).run P w = .ok (.value (.slice (some ⟨w.heap.size, 0, none⟩) len len)) (w.alloc (.cells out e)) := by
    rw [ho]
    have hb4 : ¬ (len * z.cells.size > 2 ^ 24) := by simp at hb1; omega
    by_cases h0 : len * z.cells.size = 0
    · have hr0 : ∀ f : Nat → Value, (Array.range 0).map f = #[] := fun f => by apply Array.eq_empty_of_size_eq_zero; simp
      have hfill : Instr.fill (fun i => some (i * z.cells.size, z.cells.size)) ((Array.range (len * z.cells.size)).map ((#[] : Array Value)[· % (#[] : Array Value).size]!)) (parts.map fun x => (x.1, a.eval x.2)).toList = some out := by
        rw [h0, hr0]
        rw [h0, hr0] at o1
        simpa using o1
      simp only [Instr.buildSlice, Sem.run_bind, run_und hu, Result.andThen_ok, run_size hsz, if_neg hb4, Sem.run_pure, if_pos h0, hfill, newRow, run_newObj]
      rfl
    · have hfill : Instr.fill (fun i => some (i * z.cells.size, z.cells.size)) ((Array.range (len * z.cells.size)).map (z.cells[· % z.cells.size]!)) (parts.map fun x => (x.1, a.eval x.2)).toList = some out := by simpa using o1
      simp only [Instr.buildSlice, Sem.run_bind, run_und hu, Result.andThen_ok, run_size hsz, if_neg hb4, Sem.run_pure, if_neg h0, run_zero h1 h2, hfill, newRow, run_newObj]
      rfl
  refine stp_row hx hd hn out e (0, 0) he hs ⟨w.drawn, rfl⟩ (c := .sl (.yes (z.cells.toList.map cst0).length) len (r.map AV.pl)) (v := .slice (some ⟨w.heap.size, 0, none⟩) len len) ?_ (fun i => ⟨by simp [OwnOK], fun cs vs e1 => by cases e1⟩) hk hrun
  refine .sl _ (by simp) len (r.map AV.pl) w.heap.size 0 len (Nat.le_refl _) (by omega) (fun j => out.getD j undef) (fun j c hc => ?_) (fun j c hc => ?_)
  · rw [List.getElem?_map, Option.map_eq_some_iff] at hc
    obtain ⟨c0, hc, rfl⟩ := hc
    have hj : j < out.size := by rw [o2.1]; exact (List.getElem?_eq_some_iff.1 hc).1
    simp [Imm.ext, hj]
  · rw [List.getElem?_map, Option.map_eq_some_iff] at hc
    obtain ⟨c0, hc, rfl⟩ := hc
    have hj : j < out.size := by rw [o2.1]; exact (List.getElem?_eq_some_iff.1 hc).1
    have h3 := (o2.2 j c0 out[j] hc (Array.getElem?_eq_getElem hj)).pl
    simp only [Array.getD_eq_getD_getElem?, Array.getElem?_eq_getElem hj, Option.getD_some]
    exact h3.ext (Ext.alloc_imm hs out e (0, 0))

theorem stp_make {o : Oper} {g : Gh} {t : TypeId} {l c : Operand} (hx : Ext g0 w0 g w) (hs : Sim g σ w) (he : EnvOK g env a.tmps) (hG : GOK G g) (hd : a.defers = D) (hn : NextOK g0 w0 D K next)
    (h : amake P σ t (ev G env l) (ev G env c) (KvS K env o.dst)) (ho : execOp a.eval o = (do pure (.value (← Instr.makeSlice t (a.eval l) (a.eval c))))) : Stp P o a w next QQ := by
  have hrl := R.ev hG he l
  have hrc := R.ev hG he c
  unfold amake at h
  split at h <;> try exact h.elim
  rename_i k1 ln k2 cn h1 h2
  rw [h1] at hrl
  rw [h2] at hrc
  generalize a.eval l = vl at hrl ho
  generalize a.eval c = vc at hrc ho
  cases hrl
  cases hrc
  split at h <;> try exact h.elim
  rename_i e hu
  split at h <;> try exact h.elim
  rename_i zs hz
  split at h <;> try exact h.elim
  rename_i by_ hby
  obtain ⟨hsz, hne, ⟨hl0, hlc, hcb, hc48⟩, hk⟩ := h
  obtain ⟨i, z, h3, h4, rfl⟩ := zero_of hz
  have hzl : (z.cells.toList.map cst0).length = z.cells.size := by simp
  rw [hzl] at hsz
  obtain ⟨hrow, hnr⟩ := azeros_row (S := g.S) (ρ := g.ρ) z hne cn.toNat
  have hbytes : i.bytes = by_ := by
    unfold tbytes at hby
    rw [h3] at hby
    cases hby
    rfl
  have hl1 : ∀ x : Int, 0 ≤ x → x ≤ 281474976710656 → IntKind.i64.wrap x = x := fun x h1 h2 => by
    simp [IntKind.wrap, IntKind.bits, IntKind.signed]
    omega
  have hw1 := hl1 ln (by omega) (by omega)
  have hw2 := hl1 cn (by omega) (by omega)
  have hrun : (execOp a.eval o).run P w = .ok (.value (.slice (some ⟨w.heap.size, 0, none⟩) ln.toNat cn.toNat)) (w.alloc (.cells ((Array.range (cn.toNat * z.cells.size)).map (z.cells[· % z.cells.size]!)) e)) := by
    rw [ho]
    have t1 : ((decide (cn < 0) || decide ((by_ : Int) * cn > 2 ^ 48)) || decide (ln < 0) || decide (ln > cn)) = false := by
      have : ¬ ((by_ : Int) * cn > 2 ^ 48) := by rw [Int.mul_comm]; omega
      simp [this]
      omega
    by_cases h0 : cn.toNat * z.cells.size = 0
    · have hr0 : ∀ f : Nat → Value, (Array.range 0).map f = #[] := fun f => by apply Array.eq_empty_of_size_eq_zero; simp
      simp only [Instr.makeSlice, asInt, asIntOf, Sem.run_bind, run_und hu, Result.andThen_ok, Sem.run_pure, run_ti h3, hbytes, hw1, hw2, t1, Bool.false_eq_true, if_false, run_askRoom, run_size hsz, if_pos h0, newRow, run_newObj]
      rw [h0, hr0, hr0]
      rfl
    · simp only [Instr.makeSlice, asInt, asIntOf, Sem.run_bind, run_und hu, Result.andThen_ok, Sem.run_pure, run_ti h3, hbytes, hw1, hw2, t1, Bool.false_eq_true, if_false, run_askRoom, run_size hsz, if_neg h0, run_zero h3 h4, newRow, run_newObj]
      rfl
  rw [hzl] at hk
  refine stp_obj hx hs he hd hn _ _ e hrow.1 (fun j c v hc hv => ⟨hrow.2 j c v hc hv, hnr.own hc⟩) (.sm _ _ _ _ _ w.heap.size ?_ (by omega) (by omega)) (pl_mk (by simp) (by simp)) hk hrun
  rw [← hs.len]
  simp

theorem shape_new (w : World) (vs : Array Value) (E : TypeId) (fr : Nat × Nat) : (w.alloc (.cells vs E fr)).shape? w.heap.size = some (E, vs.size) := by
  simp only [World.shape?, heap_alloc_new]

theorem freeze_new (w : World) (vs : Array Value) (E : TypeId) : (w.alloc (.cells vs E)).freeze ⟨w.heap.size, vs.size, none⟩ 1 = w.alloc (.cells vs E (vs.size, vs.size + 1)) := by
  simp only [World.freeze, World.alloc]
  rw [if_neg (by omega)]
  congr 1
  apply Array.ext_getElem?
  intro i
  simp only [Array.getElem?_modify, Array.getElem?_push]
  by_cases h : i = w.heap.size
  · subst h; simp
  · rw [if_neg (fun e => h e.symm), if_neg h, if_neg h]

theorem stp_bytes {o : Oper} {g : Gh} {src dst : TypeId} {x : Operand} (hx : Ext g0 w0 g w) (hs : Sim g σ w) (he : EnvOK g env a.tmps) (hG : GOK G g) (hd : a.defers = D) (hn : NextOK g0 w0 D K next)
    (h : abytes P src dst (ev G env x) (Kv K env σ o.dst)) (ho : execOp a.eval o = (do pure (.value (← convert src dst (a.eval x))))) : Stp P o a w next QQ := by
  have hr := R.ev hG he x
  unfold abytes at h
  split at h
  · rename_i ds e hu1 hu2
    split at h <;> try exact h.elim
    rename_i l hev
    obtain ⟨he8, hl, hk⟩ := h
    rw [hev] at hr
    generalize a.eval x = vx at hr ho
    cases hr with
    | s _ hll =>
    have hsz : (⟨l.toArray⟩ : ByteArray).size = l.length := by simp [ByteArray.size]
    obtain ⟨cap, hcap⟩ : ∃ cap, cap = (Question.appendCap l.length 0 e).cut (w.tape w.drawn (.appendCap l.length 0 e)) := ⟨_, rfl⟩
    obtain ⟨vs, hvs⟩ : ∃ vs : Array Value, vs = ((l.toArray.map fun b => Value.int .u8 (b.toNat : Int)) ++ Array.replicate (cap - l.length) (.int .u8 0)) := ⟨_, rfl⟩
    have hcl : l.length ≤ cap := by rw [hcap]; simp [Question.cut]
    have hrun : (execOp a.eval o).run P w = .ok (.value (.slice (some ⟨w.heap.size, 0, none⟩) l.length cap)) { w.alloc (.cells vs e (vs.size, vs.size + 1)) with drawn := w.drawn + 1 } := by
      rw [ho]
      have hconv : (convert src dst (.string ⟨l.toArray⟩)).run P w = (Conv.stringToBytes e ⟨l.toArray⟩).run P w := by
        simp only [convert, Sem.run_bind, run_und hu1, run_und hu2, Result.andThen_ok]
        cases ds <;> simp only [Sem.run_bind, run_und he8, Result.andThen_ok]
      simp only [Sem.run_bind, hconv, Conv.stringToBytes, hsz, run_choose, Question.forced, Bool.false_eq_true, if_false, ← hcap, Result.andThen_ok, newRow, run_newObj, markStringish, run_shape, ← hvs, Sem.run_pure]
      have e1 : (World.shape? { heap := w.heap.push (.cells vs e), tape := w.tape, drawn := w.drawn + 1, os := w.os, output := w.output } w.heap.size) = some (e, vs.size) := by simp [World.shape?]
      rw [e1]
      simp only [Sem.run_bind, run_freeze, Result.andThen_ok, Sem.run_pure]
      have e2 := freeze_new { w with drawn := w.drawn + 1 } vs e
      simp only [World.alloc] at e2
      rw [e2]
      rfl
    refine stp_row hx hd hn vs e (vs.size, vs.size + 1) he hs ⟨w.drawn + 1, rfl⟩ (c := .sl .no l.length (encB l)) ?_ (fun i => pl_mk (by simp) (by simp) _ i _) hk hrun
    refine .sl _ (by simp) _ _ w.heap.size 0 cap hcl (by omega) (fun j => .int .u8 ((l.getD j 0).toNat : Int)) (fun j c hc => ?_) (fun j c hc => ?_)
    · have hj : j < l.length := by
        have := (List.getElem?_eq_some_iff.1 hc).1
        simpa [encB] using this
      simp only [Imm.ext, Nat.zero_add, if_true, hvs]
      rw [Array.getElem?_append_left (by simpa using hj)]
      simp [hj, List.getD_eq_getElem?_getD]
    · have hj : j < l.length := by
        have := (List.getElem?_eq_some_iff.1 hc).1
        simpa [encB] using this
      simp only [encB, List.getElem?_map, List.getElem?_eq_getElem hj, Option.map_some, Option.some.injEq] at hc
      subst hc
      simp only [List.getD_eq_getElem?_getD, List.getElem?_eq_getElem hj, Option.getD_some]
      exact .i _ _ (inR_u8 _)
  · exact stp_gives hx hs he hd hn (acnv_sound hs hr h) ho

end
end Go.Proofs.Ytoofpdmdgofdcaa.E

namespace Go.Proofs.Ytoofpdmdgofdcaa.E
open Go Go.RowKit
set_option linter.unusedVariables false
set_option linter.unusedSimpArgs false

variable {P : Program}

theorem storeCells_row (bk : Nat) (E : TypeId) (fr : Nat × Nat) : ∀ (us : List Value) (i off : Nat) (w : World) (vs : Array Value), w.heap[bk]? = some (.cells vs E fr) → off + i + us.length ≤ vs.size →
    (∀ k, off + i ≤ k → k < off + i + us.length → ¬ (fr.1 ≤ k ∧ k < fr.2)) → (∀ v ∈ us, v.oneCell' = true) →
    ∃ w' vs', (storeCells ⟨bk, off, none⟩ us i).run P w = .ok () w' ∧ w'.heap[bk]? = some (.cells vs' E fr) ∧ vs'.size = vs.size ∧
      (∀ k, vs'[k]? = if off + i ≤ k ∧ k < off + i + us.length then us[k - (off + i)]? else vs[k]?) ∧ (∀ b, b ≠ bk → w'.heap[b]? = w.heap[b]?) ∧ w'.os = w.os ∧ w'.tape = w.tape ∧ w'.output = w.output ∧ w'.heap.size = w.heap.size
  | [], i, off, w, vs, h, hl, hf, h1 => ⟨w, vs, by simp [storeCells], h, rfl, fun k => by rw [if_neg (by simp)], fun _ _ => rfl, rfl, rfl, rfl, rfl⟩
  | u :: us, i, off, w, vs, h, hl, hf, h1 => by
    simp only [List.length_cons] at hl hf
    have hcell : w.cell? ⟨bk, off + i, none⟩ = some (vs[off + i]'(by omega)) := by
      rw [cell_cells h]
      exact Array.getElem?_eq_getElem (by omega)
    have hfz : w.frozen? ⟨bk, off + i, none⟩ = false := by
      obtain ⟨lo, hi⟩ := fr
      have k5' : ¬ (lo ≤ off + i ∧ off + i < hi) := hf (off + i) (Nat.le_refl _) (by omega)
      simp only [World.frozen?, h, Bool.and_eq_false_iff, decide_eq_false_iff_not]
      omega
    have hset := heap_setCell_eq (off := off + i) (u := u) h
    obtain ⟨w', vs', r1, r2, r3, r4, r5, r6, r7, r8, r9⟩ := storeCells_row bk E fr us (i + 1) off (w.setCell ⟨bk, off + i, none⟩ u) (vs.setIfInBounds (off + i) u) hset (by simp; omega) (fun k a b => hf k (by omega) (by omega)) (fun v hv => h1 v (List.mem_cons_of_mem _ hv))
    refine ⟨w', vs', ?_, r2, by simpa using r3, fun k => ?_, fun b hb => (r5 b hb).trans (heap_setCell_ne hb), r6, r7, r8, by rw [r9, size_setCell]⟩
    · simp only [storeCells, Sem.run_bind, add_mk, run_store P w _ u _ (h1 u (List.mem_cons_self ..)), hcell, hfz, Bool.false_eq_true, if_false, Result.andThen_ok]
      exact r1
    · rw [r4 k]
      simp only [List.length_cons]
      by_cases e1 : off + (i + 1) ≤ k ∧ k < off + (i + 1) + us.length
      · rw [if_pos e1, if_pos (by omega), show k - (off + i) = (k - (off + (i + 1))) + 1 by omega]
        rfl
      · rw [if_neg e1, Array.getElem?_setIfInBounds]
        by_cases e2 : off + i = k
        · subst e2
          rw [if_pos rfl, if_pos (by omega), if_pos (by omega)]
          simp
        · rw [if_neg e2, if_neg (by omega)]

section
variable {G : Nat → AV} {g0 : Gh} {w0 : World} {D : List Deferred} {env : AEnv} {σ : AState} {a : Act} {w : World} {K : AEnv → AState → Prop} {Q : AX → AEnv → AState → Prop} {next : Act → World → Prop} {QQ : Exit → Act → World → Prop}

theorem one_all {ds : List AV} (h : ds.all one = true) {j : Nat} {c : AV} (hc : ds[j]? = some c) : one c = true := by
  rw [List.all_eq_true] at h
  exact h c (List.mem_of_getElem? hc)

theorem cells_one {S : Imm} {ρ : List Nat} {ds : List AV} {us : List Value} (hl : us.length ≤ ds.length) (h1 : ds.all one = true) (hR : ∀ (j : Nat) (c : AV) (v : Value), ds[j]? = some c → us[j]? = some v → R S ρ c v) : ∀ v ∈ us, v.oneCell' = true := fun v hv => by
  obtain ⟨j, hj⟩ := List.getElem?_of_mem hv
  have hlt := (List.getElem?_eq_some_iff.1 hj).1
  have hc : ds[j]? = some (ds[j]'(by omega)) := List.getElem?_eq_getElem (by omega)
  exact (one_cell (hR j _ v hc hj) (one_all h1 hc)).1

theorem ev_args {xs : Array Operand} {i : Nat} {x : Operand} (h : xs[i]? = some x) (ρ : Operand → Value) : (xs.map ρ)[i]? = some (ρ x) := by simp [h]

theorem stp_copy {o : Oper} {g : Gh} {ts : Array TypeId} {ty : TypeId} {xs : Array Operand} (hx : Ext g0 w0 g w) (hs : Sim g σ w) (he : EnvOK g env a.tmps) (hG : GOK G g) (hd : a.defers = D) (hn : NextOK g0 w0 D K next)
    (h : acopy P G env σ ts xs o.dst K) (ho : execOp a.eval o = (do pure (.value (← Builtin.copy_ ts ty (xs.map a.eval))))) : Stp P o a w next QQ := by
  unfold acopy at h
  split at h <;> try exact h.elim
  rename_i t s x ht hs0 hx1
  split at h <;> try exact h.elim
  rename_i e hu
  split at h <;> try exact h.elim
  rename_i sz hsz
  split at h <;> try exact h.elim
  rename_i id off n cap z hev
  split at h <;> try exact h.elim
  rename_i cs hobj
  obtain ⟨r, hr, ⟨h1, h2, h3, h4⟩, hk⟩ := h
  obtain ⟨m, ds⟩ := r
  have hrs := R.ev hG he s
  have hrx := R.ev hG he x
  rw [hev] at hrs
  have ha0 := ev_args hs0 a.eval
  have ha1 := ev_args hx1 a.eval
  generalize a.eval s = vs at hrs ha0
  cases hrs with
  | sm _ _ _ _ _ bk hb hnc hc =>
  simp only at h1 h2 hk
  obtain ⟨l1, us, l2, l3, l4⟩ := asrc_run (P := P) hs hrx hr h1 (min m n) (Nat.min_le_left _ _)
  have hle : min m n * sz ≤ n * sz := Nat.mul_le_mul_right _ (Nat.min_le_right _ _)
  have hle2 : min m n * sz ≤ m * sz := Nat.mul_le_mul_right _ (Nat.min_le_left _ _)
  have hone := cells_one (by omega) h2 l4
  obtain ⟨w', q1, q2, q3⟩ := storeCells_sim (P := P) hb ((ds.take (min m n * sz)).map AV.pl) us 0 off σ w cs hs hobj (by simp; omega) (by simp; omega) (fun j c v hc hv => by
    simp only [List.getElem?_map, Option.map_eq_some_iff] at hc
    obtain ⟨c0, hc0, rfl⟩ := hc
    have hj : j < min m n * sz := by rw [← l3]; exact (List.getElem?_eq_some_iff.1 hv).1
    rw [List.getElem?_take_of_lt hj] at hc0
    exact ⟨(l4 j c0 v hc0 hv).pl, ownOK_pl _ _ _ _, hone v (List.mem_of_getElem? hv)⟩)
  have hrun : (execOp a.eval o).run P w = .ok (.value (.int .i64 ((min m n : Nat) : Int))) w' := by
    rw [ho]
    have e1 : Nat.min m n = min m n := rfl
    simp only [Builtin.copy_, ht, ha0, ha1, Sem.run_bind, run_und hu, Result.andThen_ok, l1, e1, run_size hsz, l2, q1, goInt, Sem.run_pure, List.toList_toArray]
  refine stp_value hrun (hn _ _ _ _ hk ⟨by rw [put_defers]; exact hd, g, hx.trans q3, q2, ?_⟩)
  exact EnvOK.put' he o.dst (.i _ _ (inR_nat (n := min m n) (by omega))) (fun i _ => pl_mk (by simp) (by simp) g i _) a rfl


/-- More cells of a row do not change any more. -/
def Imm.add (S : Imm) (bk h : Nat) (us : List Value) : Imm := fun b o => if b = bk ∧ h ≤ o ∧ o < h + us.length then us[o - h]? else S b o

def owSet (ow : Nat → Option (Slot × Nat × Nat)) (bk : Nat) (x : Slot × Nat × Nat) : Nat → Option (Slot × Nat × Nat) := fun b => if b = bk then some x else ow b

theorem owSet_ne {ow : Nat → Option (Slot × Nat × Nat)} {bk b : Nat} {x : Slot × Nat × Nat} (h : b ≠ bk) : owSet ow bk x b = ow b := if_neg h

/-- An append in place: behind an owned row. -/
theorem Sim.inPlace {g : Gh} {σ : AState} {w w' : World} (hs : Sim g σ w) {bk h e : Nat} {s s' : Slot} {us : List Value} {vs vs' : Array Value} {E : TypeId} {fr : Nat × Nat} (how : g.ow bk = some (s, h, e)) (hso : ∀ id j, s ≠ .o id j) (hh : w.heap[bk]? = some (.cells vs E fr)) (hh' : w'.heap[bk]? = some (.cells vs' E fr))
    (hsz : vs'.size = vs.size) (hle : h + us.length ≤ vs.size) (hv : ∀ k, vs'[k]? = if h ≤ k ∧ k < h + us.length then us[k - h]? else vs[k]?) (hb : ∀ b, b ≠ bk → w'.heap[b]? = w.heap[b]?) :
    Sim { S := Imm.add g.S bk h us, ρ := g.ρ, ow := owSet g.ow bk (s', h + us.length, e) } σ w' := by
  obtain ⟨vs0, E0, fr0, k1, k2, k3, k4⟩ := hs.own bk s h e how
  rw [hh] at k1
  cases k1
  have hbk : ∀ id : Nat, g.ρ[id]? ≠ some bk := fun id hid => by
    have hid2 : id < σ.length := by rw [← hs.len]; exact (List.getElem?_eq_some_iff.1 hid).1
    have := hs.obj id _ (List.getElem?_eq_getElem hid2)
    cases ho : σ[id] with
    | cells cs =>
      rw [ho] at this
      obtain ⟨b1, us1, E1, fr1, m2, m3, m4, m5, m6, m7, m8⟩ := this
      rw [hid] at m2
      cases m2
      rw [how] at m7
      cases m7
    | map es =>
      rw [ho] at this
      obtain ⟨b1, ms, clock, m2, m3, m4, m6, m7, m8⟩ := this
      rw [hid] at m2
      cases m2
      rw [how] at m7
      cases m7
    | loop r es =>
      rw [ho] at this
      obtain ⟨b1, m2, m3, m4, m6, m7, m8⟩ := this
      rw [hid] at m2
      cases m2
      rw [how] at m7
      cases m7
    | it itn its es =>
      rw [ho] at this
      obtain ⟨b1, itx, m2, m3, m4, m6, m7, m8⟩ := this
      rw [hid] at m2
      cases m2
      rw [how] at m7
      cases m7
  have hS : ∀ b o v, g.S b o = some v → Imm.add g.S bk h us b o = some v := fun b o v hv2 => by
    unfold Imm.add
    rw [if_neg (fun hc => by
      obtain ⟨rfl, h1, h2⟩ := hc
      rw [k4 o h1] at hv2
      cases hv2)]
    exact hv2
  have hne : ∀ b, b ≠ bk → ∀ o, Imm.add g.S bk h us b o = g.S b o := fun b hb o => by
    unfold Imm.add
    rw [if_neg (fun hc => hb hc.1)]
  refine { imm := ?_, len := hs.len, inj := hs.inj, obj := ?_, own := ?_ }
  · intro b o v hv2
    simp only [Imm.add] at hv2
    split at hv2
    · rename_i hc
      obtain ⟨rfl, h1, h2⟩ := hc
      rw [cell_cells hh', hv o, if_pos ⟨h1, h2⟩]
      exact hv2
    · rename_i hc
      have h1 := hs.imm b o v hv2
      by_cases hb2 : b = bk
      · subst hb2
        rw [cell_cells hh] at h1
        rw [cell_cells hh', hv o, if_neg (fun h2 => hc ⟨rfl, h2.1, h2.2⟩)]
        exact h1
      · simp only [World.cell?] at *
        rw [hb b hb2]
        exact h1
  · intro id o ho
    have hob := hs.obj id o ho
    cases o with
    | cells cs =>
      obtain ⟨b1, us1, E1, fr1, m2, m3, m4, m5, m6, m7, m8⟩ := hob
      have hb1 : b1 ≠ bk := fun e2 => hbk id (e2 ▸ m2)
      refine ⟨b1, us1, E1, fr1, m2, (hb b1 hb1).trans m3, m4, m5, fun o => (hne b1 hb1 o).trans (m6 o), (owSet_ne hb1).trans m7, fun j c v hc hv => ⟨(m8 j c v hc hv).1.mono hS (fun _ _ h => h), (m8 j c v hc hv).2.mono fun b x hx => ?_⟩⟩
      exact (owSet_ne (fun e2 => by rw [e2, how] at hx; cases hx; exact hso _ _ rfl)).trans hx
    | map es =>
      obtain ⟨b1, ms, clock, m2, m3, m4, m6, m7, m8⟩ := hob
      have hb1 : b1 ≠ bk := fun e2 => hbk id (e2 ▸ m2)
      exact ⟨b1, ms, clock, m2, (hb b1 hb1).trans m3, m4, fun o => (hne b1 hb1 o).trans (m6 o), (owSet_ne hb1).trans m7, fun j c v hc hv => ⟨(m8 j c v hc hv).1.mono hS (fun _ _ h => h), (m8 j c v hc hv).2.mono hS (fun _ _ h => h)⟩⟩
    | loop r es =>
      obtain ⟨b1, m2, m3, m4, m6, m7, m8⟩ := hob
      have hb1 : b1 ≠ bk := fun e2 => hbk id (e2 ▸ m2)
      exact ⟨b1, m2, (hb b1 hb1).trans m3, m4, fun o => (hne b1 hb1 o).trans (m6 o), (owSet_ne hb1).trans m7, fun j c v hc hv => (m8 j c v hc hv).mono hS (fun _ _ h => h)⟩
    | it itn its es =>
      obtain ⟨b1, itx, m2, m3, m4, m6, m7, m8⟩ := hob
      have hb1 : b1 ≠ bk := fun e2 => hbk id (e2 ▸ m2)
      exact ⟨b1, itx, m2, (hb b1 hb1).trans m3, m4, fun o => (hne b1 hb1 o).trans (m6 o), (owSet_ne hb1).trans m7, fun j c v hc hv => (m8 j c v hc hv).mono hS (fun _ _ h => h)⟩
  · intro b s2 h2 e2 ho
    simp only [owSet] at ho
    split at ho
    · rename_i hb2
      subst hb2
      cases ho
      refine ⟨vs', E, fr, hh', by omega, fun o h1 h2 => k3 o (by omega) (by omega), fun o h1 => ?_⟩
      simp only [Imm.add]
      rw [if_neg (by omega)]
      exact k4 o (by omega)
    · rename_i hb2
      obtain ⟨vs1, E1, fr1, n1, n2, n3, n4⟩ := hs.own b s2 h2 e2 ho
      exact ⟨vs1, E1, fr1, (hb b hb2).trans n1, n2, n3, fun o h1 => (hne b hb2 o).trans (n4 o h1)⟩

theorem Ext.inPlace {g : Gh} {w w' : World} {σ : AState} (hs : Sim g σ w) {bk h e : Nat} {s s' : Slot} {us : List Value} (how : g.ow bk = some (s, h, e)) (hb : ∀ b, b ≠ bk → w'.heap[b]? = w.heap[b]?) (h1 : w'.os = w.os) (h2 : w'.tape = w.tape) (h3 : w'.output = w.output) (h4 : w'.heap.size = w.heap.size) :
    Ext g w { S := Imm.add g.S bk h us, ρ := g.ρ, ow := owSet g.ow bk (s', h + us.length, e) } w' where
  os := h1
  tape := h2
  output := h3
  size := by omega
  S := fun b o v hv => by
    obtain ⟨vs0, E0, fr0, k1, k2, k3, k4⟩ := hs.own bk s h e how
    simp only [Imm.add]
    rw [if_neg (fun hc => by
      obtain ⟨rfl, h1, h2⟩ := hc
      rw [k4 o h1] at hv
      cases hv)]
    exact hv
  ρ := fun _ _ h => h
  keep := fun b hlt hr ho => by
    have hb2 : b ≠ bk := fun e2 => by rw [e2, how] at ho; cases ho
    refine ⟨hb b hb2, fun o => ?_⟩
    simp only [Imm.add]
    rw [if_neg (fun hc => hb2 hc.1)]
  newρ := fun id _ h => .inr ⟨id, h⟩
  newow := fun b x hx => by
    simp only [owSet] at hx
    split at hx
    · rename_i e2
      subst e2
      exact .inr (by rw [how]; simp)
    · exact .inr (by rw [hx]; simp)

/-- A new row of which the first cells do not change any more, and whose room is owned. -/
theorem Sim.alloc_own {g : Gh} {σ : AState} {w : World} (hs : Sim g σ w) (vs : Array Value) (E : TypeId) (us : List Value) (s : Slot) (e : Nat) (hu : ∀ k, k < us.length → vs[k]? = us[k]?) (he : e ≤ vs.size) :
    Sim { S := Imm.add g.S w.heap.size 0 us, ρ := g.ρ, ow := owSet g.ow w.heap.size (s, us.length, e) } σ (w.alloc (.cells vs E)) := by
  have hS : ∀ b o v, g.S b o = some v → Imm.add g.S w.heap.size 0 us b o = some v := fun b o v hv2 => by
    have := hs.S_lt hv2
    unfold Imm.add
    rw [if_neg (by omega)]
    exact hv2
  have hne : ∀ b, b < w.heap.size → ∀ o, Imm.add g.S w.heap.size 0 us b o = g.S b o := fun b hb o => by
    unfold Imm.add
    rw [if_neg (by omega)]
  refine { imm := ?_, len := hs.len, inj := hs.inj, obj := ?_, own := ?_ }
  · intro b o v hv2
    simp only [Imm.add] at hv2
    split at hv2
    · rename_i hc
      obtain ⟨rfl, h1, h2⟩ := hc
      rw [cell_cells (heap_alloc_new w _), hu o (by omega)]
      simpa using hv2
    · have h1 := hs.imm b o v hv2
      have h2 := heap_alloc_lt (o := .cells vs E) (hs.S_lt hv2)
      simp only [World.cell?] at *
      rw [h2]
      exact h1
  · intro id o ho
    have hob := hs.obj id o ho
    cases o with
    | cells cs =>
      obtain ⟨b1, us1, E1, fr1, m2, m3, m4, m5, m6, m7, m8⟩ := hob
      have hlt := heap_lt m3
      refine ⟨b1, us1, E1, fr1, m2, (heap_alloc_lt hlt).trans m3, m4, m5, fun o => (hne b1 hlt o).trans (m6 o), (owSet_ne (by omega)).trans m7, fun j c v hc hv => ⟨(m8 j c v hc hv).1.mono hS (fun _ _ h => h), (m8 j c v hc hv).2.mono fun b x hx => ?_⟩⟩
      have := hs.ow_lt hx
      exact (owSet_ne (by omega)).trans hx
    | map es =>
      obtain ⟨b1, ms, clock, m2, m3, m4, m6, m7, m8⟩ := hob
      have hlt := heap_lt m3
      exact ⟨b1, ms, clock, m2, (heap_alloc_lt hlt).trans m3, m4, fun o => (hne b1 hlt o).trans (m6 o), (owSet_ne (by omega)).trans m7, fun j c v hc hv => ⟨(m8 j c v hc hv).1.mono hS (fun _ _ h => h), (m8 j c v hc hv).2.mono hS (fun _ _ h => h)⟩⟩
    | loop r es =>
      obtain ⟨b1, m2, m3, m4, m6, m7, m8⟩ := hob
      have hlt := heap_lt m3
      exact ⟨b1, m2, (heap_alloc_lt hlt).trans m3, m4, fun o => (hne b1 hlt o).trans (m6 o), (owSet_ne (by omega)).trans m7, fun j c v hc hv => (m8 j c v hc hv).mono hS (fun _ _ h => h)⟩
    | it itn its es =>
      obtain ⟨b1, itx, m2, m3, m4, m6, m7, m8⟩ := hob
      have hlt := heap_lt m3
      exact ⟨b1, itx, m2, (heap_alloc_lt hlt).trans m3, m4, fun o => (hne b1 hlt o).trans (m6 o), (owSet_ne (by omega)).trans m7, fun j c v hc hv => (m8 j c v hc hv).mono hS (fun _ _ h => h)⟩
  · intro b s2 h2 e2 ho
    simp only [owSet] at ho
    split at ho
    · rename_i hb2
      subst hb2
      cases ho
      refine ⟨vs, E, (0, 0), heap_alloc_new w _, he, fun o h1 h2 h3 => by simp at h3, fun o h1 => ?_⟩
      simp only [Imm.add]
      rw [if_neg (by omega)]
      exact hs.S_new (Nat.le_refl _) o
    · rename_i hb2
      obtain ⟨vs1, E1, fr1, n1, n2, n3, n4⟩ := hs.own b s2 h2 e2 ho
      have hlt := heap_lt n1
      exact ⟨vs1, E1, fr1, (heap_alloc_lt hlt).trans n1, n2, n3, fun o h1 => (hne b hlt o).trans (n4 o h1)⟩

theorem Ext.alloc_own {g : Gh} {σ : AState} {w : World} (hs : Sim g σ w) (vs : Array Value) (E : TypeId) (us : List Value) (s : Slot) (e : Nat) :
    Ext g w { S := Imm.add g.S w.heap.size 0 us, ρ := g.ρ, ow := owSet g.ow w.heap.size (s, us.length, e) } (w.alloc (.cells vs E)) where
  os := rfl
  tape := rfl
  output := rfl
  size := by simp
  S := fun b o v hv => by
    have := hs.S_lt hv
    simp only [Imm.add]
    rw [if_neg (by omega)]
    exact hv
  ρ := fun _ _ h => h
  keep := fun b hlt _ _ => ⟨heap_alloc_lt hlt, fun o => by simp only [Imm.add]; rw [if_neg (by omega)]⟩
  newρ := fun id _ h => .inr ⟨id, h⟩
  newow := fun b x hx => by
    simp only [owSet] at hx
    split at hx
    · exact .inl (by omega)
    · exact .inr (by rw [hx]; simp)

end
end Go.Proofs.Ytoofpdmdgofdcaa.E

namespace Go.Proofs.Ytoofpdmdgofdcaa.E
open Go Go.RowKit
set_option linter.unusedVariables false
set_option linter.unusedSimpArgs false

variable {P : Program}

theorem growBy_le (N : Nat) : ∀ (r c : Nat), 256 ≤ c → c ≤ 2 * N → Builtin.growBy N r c ≤ 2 * N
  | 0, c, _, h => h
  | r + 1, c, h0, h => by
    simp only [Builtin.growBy]
    split
    · exact h
    · exact growBy_le N r _ (by omega) (by omega)

theorem nextcap_le {need cap : Nat} (h : cap < need) : Builtin.nextslicecap need cap ≤ 2 * need := by
  unfold Builtin.nextslicecap
  split
  · omega
  · split
    · omega
    · exact growBy_le need 4 cap (by omega) (by omega)

theorem run_append_in {w w' : World} {ts : Array TypeId} {ty t t' e : TypeId} {d' : TypeDesc} {args : Array Value} {base : Option Addr} {n m cap sz : Nat} {x : Value} {us : List Value} (ht : ts[0]? = some t) (ht' : ts[1]? = some t') (ha : args[0]? = some (.slice base n cap)) (ha' : args[1]? = some x)
    (hu : P.underlying t = some (.slice e)) (hu' : P.underlying t' = some d') (hd : ∀ k, d' ≠ .int k) (hsz : tsize P e = some sz) (hl : (Builtin.lenOf x).run P w = .ok m w) (hf : (Builtin.firstCells sz m x).run P w = .ok us.toArray w) (hfit : n + m ≤ cap)
    (hs : (match base with | some a => storeCells (a.add (n * sz)) us | none => pure ()).run P w = .ok () w') : (Builtin.append_ ts ty args).run P w = .ok (.slice base (n + m) cap) w' := by
  have hz : (match d' with | .int _ => true | _ => false) = false := by
    cases d' <;> first | rfl | exact absurd rfl (hd _)
  simp only [Builtin.append_, ht, ht', ha, ha', Sem.run_bind, run_und hu, Result.andThen_ok, run_size hsz, run_und hu', Sem.run_pure]
  cases d' <;> first | exact absurd rfl (hd _) | skip
  all_goals
    simp only [Bool.false_eq_true, if_false, Sem.run_bind, hl, Result.andThen_ok, if_pos hfit, Bool.not_false, if_true, hf]
    cases base with
    | none =>
      simp only [Sem.run_pure, Result.ok.injEq, true_and] at hs
      subst hs
      simp
    | some ad =>
      simp only at hs
      simp [hs]

theorem run_append_grow {w : World} {ts : Array TypeId} {ty t t' e : TypeId} {d' : TypeDesc} {args : Array Value} {base : Option Addr} {n m cap sz by_ : Nat} {x : Value} {us0 us : List Value} {i : TypeInfo} {z : Value} (ht : ts[0]? = some t) (ht' : ts[1]? = some t') (ha : args[0]? = some (.slice base n cap)) (ha' : args[1]? = some x)
    (hu : P.underlying t = some (.slice e)) (hu' : P.underlying t' = some d') (hd : ∀ k, d' ≠ .int k) (hsz : tsize P e = some sz) (hi : P.info? e = some i) (hz : i.zero = some z) (hby : i.bytes = by_) (hzs : z.cells.size = sz)
    (hl : (Builtin.lenOf x).run P w = .ok m w)
    (hf1 : (Builtin.firstCells sz n (.slice base n cap)).run P { w with drawn := w.drawn + 1 } = .ok us0.toArray { w with drawn := w.drawn + 1 }) (hf : (Builtin.firstCells sz m x).run P { w with drawn := w.drawn + 1 } = .ok us.toArray { w with drawn := w.drawn + 1 }) (hfit : cap < n + m)
    (hb : 2 * (n + m) * by_ ≤ 281474976710656) (hb2 : n + m ≤ 281474976710656) :
    ∃ newCap rest, n + m ≤ newCap ∧ rest.size = (newCap - (n + m)) * sz ∧ (Builtin.append_ ts ty args).run P w = .ok (.slice (some ⟨w.heap.size, 0, none⟩) (n + m) newCap) (({ w with drawn := w.drawn + 1 } : World).alloc (.cells (us0.toArray ++ us.toArray ++ rest) e)) := by
  refine ⟨(Question.appendCap (n + m) cap e).cut (w.tape w.drawn (.appendCap (n + m) cap e)), Builtin.zeroCells z.cells (((Question.appendCap (n + m) cap e).cut (w.tape w.drawn (.appendCap (n + m) cap e))) - (n + m)), by simp [Question.cut], by simp [Builtin.zeroCells, hzs], ?_⟩
  simp only [Builtin.append_, ht, ht', ha, ha', Sem.run_bind, run_und hu, Result.andThen_ok, run_size hsz, run_und hu', Sem.run_pure]
  have h1 : ¬ (n + m ≤ cap) := by omega
  have h2 : ¬ (((n + m : Nat) : Int) > IntKind.i64.max) := by rw [IntKind.max_i64]; omega
  have h3 : ¬ (Builtin.nextslicecap (n + m) cap * by_ > 2 ^ 48) := by
    have := Nat.mul_le_mul_right by_ (nextcap_le hfit)
    omega
  cases d' <;> first | exact absurd rfl (hd _) | skip
  all_goals
    simp only [Bool.false_eq_true, if_false, Sem.run_bind, hl, Result.andThen_ok, if_neg h1, false_or, h2, false_and, run_ti hi, hby, if_neg h3, run_choose, Question.forced, run_askRoom, hf1, hf, Bool.not_false, if_true, run_zero hi hz, newRow, run_newObj, Sem.run_pure]
    rfl

section
variable {G : Nat → AV} {g0 : Gh} {w0 : World} {D : List Deferred} {env : AEnv} {σ : AState} {a : Act} {w : World} {K : AEnv → AState → Prop} {Q : AX → AEnv → AState → Prop} {next : Act → World → Prop} {QQ : Exit → Act → World → Prop}

theorem setPl_ok {g g' : Gh} {x : Operand} (he : EnvOK g env a.tmps) (hS : ∀ b o v, g.S b o = some v → g'.S b o = some v) (hρ : g'.ρ = g.ρ) (ho : ∀ b s h, g.ow b = some (s, h) → (∀ t k, x = .tmp t → s ≠ .t t k) → g'.ow b = some (s, h)) : EnvOK g' (setPl env x) a.tmps := by
  have hm : ∀ (c : AV) (v : Value), R g.S g.ρ c v → R g'.S g'.ρ c v := fun c v h => h.mono hS (fun _ _ h => by rw [hρ]; exact h)
  have hother : ∀ i c v, (∀ t, x = .tmp t → i ≠ t) → TopOwn g i c v → TopOwn g' i c v := fun i c v hi h =>
    ⟨h.1.mono fun b y e => ho b _ y e (fun t k e1 e2 => by cases e2; exact hi _ e1 rfl), fun cs vs e1 e2 k c' v' h1 h2 => (h.2 cs vs e1 e2 k c' v' h1 h2).mono fun b y e => ho b _ y e (fun t k e1 e2 => by cases e2; exact hi _ e1 rfl)⟩
  cases x with
  | tmp t =>
    refine ⟨by simp [setPl, he.1], fun i c v hc hv => ?_⟩
    simp only [setPl] at hc
    rw [set_getElem?] at hc
    split at hc
    · rename_i e
      obtain ⟨rfl, hlt⟩ := e
      cases hc
      have h1 : env[t]? = some env[t] := List.getElem?_eq_getElem hlt
      have h2 := he.2 t _ v h1 hv
      simp only [List.getD_eq_getElem?_getD, h1, Option.getD_some]
      exact ⟨hm _ _ h2.1.pl, topOwn_pl g' t _ v⟩
    · rename_i e
      have h2 := he.2 i c v hc hv
      exact ⟨hm _ _ h2.1, hother i c v (fun t' e1 e2 => by cases e1; exact e ⟨e2.symm, e2 ▸ (List.getElem?_eq_some_iff.1 hc).1⟩) h2.2⟩
  | _ => exact ⟨he.1, fun i c v hc hv => ⟨hm _ _ (he.2 i c v hc hv).1, hother i c v (fun t e => by cases e) (he.2 i c v hc hv).2⟩⟩

/-- What an append gives, by the value that it is made to. -/
theorem append_core {o : Oper} {g : Gh} {ts : Array TypeId} {ty t t' e : TypeId} {d' : TypeDesc} {xs : Array Operand} {s x : Operand} {sz by_ n m : Nat} {cs ds : List AV} {ow : Ow} (hx : Ext g0 w0 g w) (hs : Sim g σ w) (he : EnvOK g env a.tmps) (hG : GOK G g) (hGp : GPl G) (hd : a.defers = D) (hn : NextOK g0 w0 D K next)
    (ho : execOp a.eval o = (do pure (.value (← Builtin.append_ ts ty (xs.map a.eval))))) (ht : ts[0]? = some t) (ht' : ts[1]? = some t') (hxs : xs[0]? = some s) (hxx : xs[1]? = some x) (hu : P.underlying t = some (.slice e)) (hu' : P.underlying t' = some d') (hd' : ∀ k, d' ≠ .int k)
    (hsz : tsize P e = some sz) (hby : tbytes P e = some by_) (hzl : tzlen P e = some sz) (hev : ev G env s = .sl ow n cs) (how : ow = .nil ∨ ow = .yes sz) (hr : asrc σ sz (ev G env x) = some (m, ds))
    (h1 : cs.length = n * sz) (h2 : ds.length = m * sz) (h3 : ds.all one = true) (h4 : 2 * (n + m) * by_ ≤ 281474976710656) (h5 : n + m ≤ 281474976710656)
    (hk : K (aput (setPl env s) o.dst (.sl (.yes sz) (n + m) (cs ++ ds.map AV.pl))) σ) : Stp P o a w next QQ := by
  have hrs := R.ev hG he s
  have hrx := R.ev hG he x
  rw [hev] at hrs
  have ha0 := ev_args hxs a.eval
  have ha1 := ev_args hxx a.eval
  obtain ⟨l1, us, l2, l3, l4⟩ := asrc_run (P := P) hs hrx hr h2 m (Nat.le_refl _)
  have hone := cells_one (by omega) h3 l4
  -- what the new row of cells reads as
  have hrow : ∀ (vs0 : Nat → Value), (∀ (j : Nat) (c : AV), cs[j]? = some c → R g.S g.ρ c (vs0 j)) → ∀ (j : Nat) (c : AV), (cs ++ ds.map AV.pl)[j]? = some c → R g.S g.ρ c (if j < cs.length then vs0 j else us.getD (j - cs.length) undef) := fun vs0 hv j c hc => by
    rcases Nat.lt_or_ge j cs.length with hj | hj
    · rw [List.getElem?_append_left hj] at hc
      rw [if_pos hj]
      exact hv j c hc
    · rw [List.getElem?_append_right hj, List.getElem?_map, Option.map_eq_some_iff] at hc
      obtain ⟨c0, hc0, rfl⟩ := hc
      rw [if_neg (by omega)]
      have hlt : j - cs.length < us.length := by rw [l3, ← h2]; exact (List.getElem?_eq_some_iff.1 hc0).1
      have := l4 _ c0 us[j - cs.length] hc0 (List.getElem?_eq_getElem hlt)
      simp only [List.getD_eq_getElem?_getD, List.getElem?_eq_getElem hlt, Option.getD_some]
      exact this.pl
  have hlen : (cs ++ ds.map AV.pl).length = (n + m) * sz := by simp [h1, h2, Nat.add_mul]
  obtain ⟨i, z, hi, hz, hzs⟩ := zero_of (t := e) (cs := (tzero P e).getD []) (by
    unfold tzlen at hzl
    cases e1 : tzero P e with
    | none => rw [e1] at hzl; cases hzl
    | some q => rfl)
  have hzsz : z.cells.size = sz := by
    unfold tzlen at hzl
    cases e1 : tzero P e with
    | none => rw [e1] at hzl; cases hzl
    | some q =>
      rw [e1] at hzl hzs
      simp only [Option.map_some, Option.some.injEq, Option.getD_some] at hzl hzs
      rw [← hzl, hzs]
      simp
  have hbytes : i.bytes = by_ := by
    unfold tbytes at hby
    rw [hi] at hby
    cases hby
    rfl
  -- a new row
  have grow : ∀ (base : Option Addr) (cap : Nat) (us0 : List Value) (vs0 : Nat → Value), a.eval s = .slice base n cap → cap < n + m → us0.length = n * sz → (∀ j, j < n * sz → us0[j]? = some (vs0 j)) → (∀ (j : Nat) (c : AV), cs[j]? = some c → R g.S g.ρ c (vs0 j)) →
      (∀ w' : World, w'.heap = w.heap → (Builtin.firstCells sz n (.slice base n cap)).run P w' = .ok us0.toArray w') → Stp P o a w next QQ := fun base cap us0 vs0 hev0 hlt hl0 hus0 hR0 hf0 => by
    rw [hev0] at ha0
    have hsd : Sim g σ { w with drawn := w.drawn + 1 } := hs.world (fun _ _ => rfl)
    obtain ⟨_, us', q1, q2, q3⟩ := asrc_run (P := P) hsd hrx hr h2 m (Nat.le_refl _)
    have hone' := q3
    obtain ⟨newCap, rest, n1, n2, n3⟩ := run_append_grow (P := P) (w := w) (ty := ty) (us0 := us0) (us := us') (z := z) ht ht' ha0 ha1 hu hu' hd' hsz hi hz hbytes hzsz l1 (hf0 _ rfl) q1 hlt h4 h5
    have hslot : ∃ d0, ∀ d, o.dst = some d → d0 = d := by
      cases o.dst with
      | none => exact ⟨0, fun d h => by cases h⟩
      | some d => exact ⟨d, fun d' h => by cases h; rfl⟩
    obtain ⟨d0, hd0⟩ := hslot
    have hvs : ∀ k, k < (us0 ++ us').length → (us0.toArray ++ us'.toArray ++ rest)[k]? = (us0 ++ us')[k]? := fun k hk => by
      rw [Array.getElem?_append_left (by simpa using hk)]
      simp
    have hroom : newCap * sz ≤ (us0.toArray ++ us'.toArray ++ rest).size := by
      simp only [Array.size_append, List.size_toArray, hl0, q2, n2]
      rw [← Nat.add_mul, ← Nat.add_mul]
      exact Nat.mul_le_mul_right _ (by omega)
    have e1 := Ext.alloc_own hsd (us0.toArray ++ us'.toArray ++ rest) e (us0 ++ us') (.t d0 0) (newCap * sz)
    have e2 := hsd.alloc_own (us0.toArray ++ us'.toArray ++ rest) e (us0 ++ us') (.t d0 0) (newCap * sz) hvs hroom
    have hxd : Ext g0 w0 g { w with drawn := w.drawn + 1 } := hx.world (σ := σ) (fun _ _ => rfl) rfl rfl rfl (Nat.le_refl _)
    have hrun : (execOp a.eval o).run P w = .ok (.value (.slice (some ⟨w.heap.size, 0, none⟩) (n + m) newCap)) (({ w with drawn := w.drawn + 1 } : World).alloc (.cells (us0.toArray ++ us'.toArray ++ rest) e)) := by
      rw [ho]
      simp only [Sem.run_bind, n3, Result.andThen_ok, Sem.run_pure]
    refine stp_value hrun (hn _ _ _ _ hk ⟨by rw [put_defers]; exact hd, _, hxd.trans e1, e2, ?_⟩)
    have henv := setPl_ok (g' := { S := Imm.add g.S w.heap.size 0 (us0 ++ us'), ρ := g.ρ, ow := owSet g.ow w.heap.size (.t d0 0, (us0 ++ us').length, newCap * sz) }) (x := s) he e1.S rfl (fun b sl hh h6 _ => by
      have := hs.ow_lt h6
      exact (owSet_ne (by omega)).trans h6)
    refine henv.put' o.dst (c := .sl (.yes sz) (n + m) (cs ++ ds.map AV.pl)) (v := .slice (some ⟨w.heap.size, 0, none⟩) (n + m) newCap) ?_ (fun d hdd => ?_) a rfl
    · have hget : ∀ (j : Nat) (c : AV), (cs ++ ds.map AV.pl)[j]? = some c → ∃ u, (us0 ++ us')[j]? = some u ∧ R g.S g.ρ c u := fun j c hc => by
        rcases Nat.lt_or_ge j cs.length with hj | hj
        · rw [List.getElem?_append_left hj] at hc
          exact ⟨vs0 j, by rw [List.getElem?_append_left (by omega)]; exact hus0 j (by omega), hR0 j c hc⟩
        · rw [List.getElem?_append_right hj, List.getElem?_map, Option.map_eq_some_iff] at hc
          obtain ⟨c0, hc0, rfl⟩ := hc
          have hlt : j - cs.length < us'.length := by rw [q2, ← h2]; exact (List.getElem?_eq_some_iff.1 hc0).1
          refine ⟨us'[j - cs.length], ?_, (q3 _ c0 _ hc0 (List.getElem?_eq_getElem hlt)).pl⟩
          rw [List.getElem?_append_right (by omega), show j - us0.length = j - cs.length by omega]
          exact List.getElem?_eq_getElem hlt
      refine .sl _ (by simp) _ _ w.heap.size 0 newCap n1 (by omega) (fun j => (us0 ++ us').getD j undef) (fun j c hc => ?_) (fun j c hc => ?_)
      · obtain ⟨u, g1, g2⟩ := hget j c hc
        have := (List.getElem?_eq_some_iff.1 g1).1
        simp only [Imm.add, Nat.zero_add, Nat.sub_zero]
        rw [if_pos (by first | exact ⟨trivial, Nat.zero_le _, this⟩ | exact ⟨rfl, Nat.zero_le _, this⟩), g1, List.getD_eq_getElem?_getD, g1]
        rfl
      · obtain ⟨u, g1, g2⟩ := hget j c hc
        rw [List.getD_eq_getElem?_getD, g1]
        exact g2.mono e1.S (fun _ _ h => h)
    · have := hd0 d hdd
      subst this
      refine ⟨.inr ?_, fun cs vs e => by cases e⟩
      simp only [owSet, if_true]
      rw [hlen]
      simp [hl0, q2, Nat.add_mul]
  generalize hvs : a.eval s = sv at hrs
  cases hrs with
  | sl0 =>
    rcases Nat.eq_zero_or_pos m with hm | hm
    · subst hm
      have hds : ds = [] := List.eq_nil_of_length_eq_zero (by simpa using h2)
      have hus : us = [] := List.eq_nil_of_length_eq_zero (by simpa using l3)
      subst hds
      subst hus
      rw [hvs] at ha0
      have hrun : (execOp a.eval o).run P w = .ok (.value (.slice none 0 0)) w := by
        rw [ho]
        simp only [Sem.run_bind, run_append_in (P := P) (w := w) (w' := w) (ty := ty) ht ht' ha0 ha1 hu hu' hd' hsz l1 l2 (by omega) (by simp), Result.andThen_ok, Sem.run_pure]
      refine stp_value hrun (hn _ _ _ _ hk ⟨by rw [put_defers]; exact hd, g, hx, hs, ?_⟩)
      have henv := setPl_ok (g' := g) (x := s) he (fun _ _ _ h => h) rfl (fun _ _ _ h _ => h)
      exact henv.put' o.dst (.sl0 (.yes sz)) (fun i _ => ⟨by simp [OwnOK], fun cs vs e => by cases e⟩) a rfl
    · exact grow none 0 [] (fun _ => undef) hvs (by omega) (by simp) (fun j hj => by simp at hj) (fun j c hc => by simp at hc) (fun w' _ => by simp [Builtin.firstCells])
  | sl _ hnil _ _ bk off cap hnc hc vs hS hR =>
    have hown : ow = .yes sz := by
      rcases how with h | h
      · exact absurd h hnil
      · exact h
    subst hown
    have hst : ∃ t0, s = .tmp t0 := by
      cases s with
      | tmp t0 => exact ⟨t0, rfl⟩
      | const v => exact absurd hev (cst_ne _ _ _ _)
      | global q => exact absurd hev ((hGp q).1 _ _ _)
      | func f => cases hev
    obtain ⟨t0, rfl⟩ := hst
    have htop := (topOwn_get he t0).1
    have hev' : env.getD t0 .u = .sl (.yes sz) n cs := hev
    have hvs' : a.tmps.getD t0 undef = .slice (some ⟨bk, off, none⟩) n cap := hvs
    rw [hev', hvs'] at htop
    have hcs : ∀ j (hj : j < n * sz), cs[j]? = some (cs[j]'(by omega)) := fun j hj => List.getElem?_eq_getElem (by omega)
    rcases Nat.lt_or_ge cap (n + m) with hlt | hge
    · refine grow (some ⟨bk, off, none⟩) cap ((List.range (n * sz)).map vs) vs hvs hlt (by simp) (fun j hj => by simp [hj]) hR (fun w' hw' => ?_)
      have := run_loadCells (P := P) w' ⟨bk, off, none⟩ (n * sz) vs (fun j hj => by
        rw [add_mk]
        have h6 := hs.imm _ _ _ (hS j _ (hcs j hj))
        simp only [World.cell?] at *
        rw [hw']
        exact h6)
      simpa [Builtin.firstCells] using this
    · rw [hvs] at ha0
      rcases htop with hcap | hown
      · have hm : m = 0 := by omega
        subst hm
        have hds : ds = [] := List.eq_nil_of_length_eq_zero (by simpa using h2)
        have hus : us = [] := List.eq_nil_of_length_eq_zero (by simpa using l3)
        subst hds
        subst hus
        have hrun : (execOp a.eval o).run P w = .ok (.value (.slice (some ⟨bk, off, none⟩) (n + 0) cap)) w := by
          rw [ho]
          simp only [Sem.run_bind, run_append_in (P := P) (w := w) (w' := w) (ty := ty) ht ht' ha0 ha1 hu hu' hd' hsz l1 l2 (by omega) (by simp [storeCells]), Result.andThen_ok, Sem.run_pure]
        refine stp_value hrun (hn _ _ _ _ hk ⟨by rw [put_defers]; exact hd, g, hx, hs, ?_⟩)
        have henv := setPl_ok (g' := g) (x := .tmp t0) he (fun _ _ _ h => h) rfl (fun _ _ _ h _ => h)
        refine henv.put' o.dst ?_ (fun i _ => ⟨by simp only [OwnOK]; exact .inl (by omega), fun cs vs e => by cases e⟩) a rfl
        simp only [List.map_nil, List.append_nil, Nat.add_zero]
        exact .sl _ (by simp) _ _ bk off cap hnc hc vs hS hR
      · obtain ⟨ws, E, fr, k1, k2, k3, k4⟩ := hs.own bk _ _ _ hown
        simp only at k2 k3 k4 hown
        have hfit : off + n * sz + m * sz ≤ ws.size := by
          have := Nat.mul_le_mul_right sz hge
          rw [Nat.add_mul] at this
          omega
        rw [h1] at hown k3 k4
        obtain ⟨w', ws', r1, r2, r3, r4, r5, r6, r7, r8, r9⟩ := storeCells_row (P := P) bk E fr us 0 (off + n * sz) w ws k1 (by omega) (fun k q1 q2 => k3 k (by omega) (by omega)) hone
        have hslot : ∃ d0, ∀ d, o.dst = some d → d0 = d := by
          cases o.dst with
          | none => exact ⟨t0, fun d h => by cases h⟩
          | some d => exact ⟨d, fun d' h => by cases h; rfl⟩
        obtain ⟨d0, hd0⟩ := hslot
        have e1 := Ext.inPlace (us := us) (s' := .t d0 0) hs hown r5 r6 r7 r8 r9
        have e2 := hs.inPlace (us := us) (s' := .t d0 0) hown (fun _ _ h => by cases h) k1 r2 r3 (by omega) (fun k => by rw [r4 k]; simp) r5
        have hrun : (execOp a.eval o).run P w = .ok (.value (.slice (some ⟨bk, off, none⟩) (n + m) cap)) w' := by
          rw [ho]
          simp only [Sem.run_bind, run_append_in (P := P) (w := w) (w' := w') (ty := ty) ht ht' ha0 ha1 hu hu' hd' hsz l1 l2 hge (by simp only [add_mk]; exact r1), Result.andThen_ok, Sem.run_pure]
        refine stp_value hrun (hn _ _ _ _ hk ⟨by rw [put_defers]; exact hd, _, hx.trans e1, e2, ?_⟩)
        have henv := setPl_ok (x := .tmp t0) he e1.S rfl (g' := { S := Imm.add g.S bk (off + n * sz) us, ρ := g.ρ, ow := owSet g.ow bk (.t d0 0, off + n * sz + us.length, off + cap * sz) }) (fun b sl hh h6 h7 => by
          refine (owSet_ne (fun eb => ?_)).trans h6
          rw [eb, hown] at h6
          cases h6
          exact h7 t0 0 rfl rfl)
        refine henv.put' o.dst ?_ (fun d hdd => ?_) a rfl
        · refine .sl _ (by simp) _ _ bk off cap hge (by omega) (fun j => if j < cs.length then vs j else us.getD (j - cs.length) undef) (fun j c hc => ?_) (fun j c hc => (hrow vs hR j c hc).mono e1.S (fun _ _ h => h))
          rcases Nat.lt_or_ge j cs.length with hj | hj
          · rw [List.getElem?_append_left hj] at hc
            rw [if_pos hj]
            exact e1.S _ _ _ (hS j c hc)
          · have hjl := (List.getElem?_eq_some_iff.1 hc).1
            rw [List.length_append, List.length_map] at hjl
            have hlt : j - cs.length < us.length := by omega
            rw [if_neg (by omega)]
            simp only [Imm.add]
            rw [if_pos ⟨by first | trivial | rfl, by omega, by omega⟩, show off + j - (off + n * sz) = j - cs.length by omega]
            simp [List.getD_eq_getElem?_getD, hlt]
        · have := hd0 d hdd
          subst this
          refine ⟨.inr ?_, fun cs vs e => by cases e⟩
          simp only [owSet, if_true]
          rw [hlen, l3, Nat.add_mul]
          simp only [Nat.add_assoc]

end

end Go.Proofs.Ytoofpdmdgofdcaa.E

namespace Go.Proofs.Ytoofpdmdgofdcaa.E
open Go Go.RowKit
set_option linter.unusedVariables false
set_option linter.unusedSimpArgs false

variable {P : Program}

section
variable {G : Nat → AV} {g0 : Gh} {w0 : World} {D : List Deferred} {env : AEnv} {σ : AState} {a : Act} {w : World} {K : AEnv → AState → Prop} {Q : AX → AEnv → AState → Prop} {next : Act → World → Prop} {QQ : Exit → Act → World → Prop}

theorem appendM_sound {o : Oper} {g : Gh} {ts : Array TypeId} {ty : TypeId} {xs : Array Operand} (hx : Ext g0 w0 g w) (hs : Sim g σ w) (he : EnvOK g env a.tmps) (hG : GOK G g) (hGp : GPl G) (hd : a.defers = D) (hn : NextOK g0 w0 D K next)
    (ho : execOp a.eval o = (do pure (.value (← Builtin.append_ ts ty (xs.map a.eval))))) (h : aappendM P G env σ ts xs o.dst K) : Stp P o a w next QQ := by
  unfold aappendM at h
  split at h <;> try exact h.elim
  rename_i t t' s x ht ht' hxs hxx
  split at h <;> try exact h.elim
  rename_i d' hd'' hu'
  have hd' : ∀ k, d' ≠ .int k := fun k e => hd'' k e
  split at h <;> try exact h.elim
  rename_i e hu
  split at h <;> try exact h.elim
  rename_i sz by_ hsz hby
  obtain ⟨hzl, ⟨m, ds⟩, hr, h⟩ := h
  have hrs := R.ev hG he s
  have hrx := R.ev hG he x
  have ha0 := ev_args hxs a.eval
  have ha1 := ev_args hxx a.eval
  obtain ⟨i, z, hi, hz, hzs⟩ := zero_of (t := e) (cs := (tzero P e).getD []) (by
    unfold tzlen at hzl
    cases e1 : tzero P e with
    | none => rw [e1] at hzl; cases hzl
    | some q => rfl)
  have hzsz : z.cells.size = sz := by
    unfold tzlen at hzl
    cases e1 : tzero P e with
    | none => rw [e1] at hzl; cases hzl
    | some q =>
      rw [e1] at hzl hzs
      simp only [Option.map_some, Option.some.injEq, Option.getD_some] at hzl hzs
      rw [← hzl, hzs]
      simp
  have hbytes : i.bytes = by_ := by
    unfold tbytes at hby
    rw [hi] at hby
    cases hby
    rfl
  -- a new object
  have grow : ∀ (base : Option Addr) (n cap : Nat) (cs0 : List AV), a.eval s = .slice base n cap → cap < n + m → cs0.length = n * sz → ds.length = m * sz → 2 * (n + m) * by_ ≤ 281474976710656 → n + m ≤ 281474976710656 →
      (∀ w' : World, Sim g σ w' → ∃ us0 : List Value, (Builtin.firstCells sz n (.slice base n cap)).run P w' = .ok us0.toArray w' ∧ us0.length = n * sz ∧ ∀ (j : Nat) (c : AV) (v : Value), cs0[j]? = some c → us0[j]? = some v → R g.S g.ρ c v) →
      (∀ c, n + m ≤ c → K (aput env o.dst (.sm σ.length 0 (n + m) c sz)) (σ ++ [.cells (cs0.map AV.pl ++ ds.map AV.pl ++ List.replicate ((c - (n + m)) * sz) .u)])) → Stp P o a w next QQ := fun base n cap cs0 hev0 hlt hlc h2 h4 h5 hf0 hk => by
    rw [hev0] at ha0
    have hsd : Sim g σ { w with drawn := w.drawn + 1 } := hs.world (fun _ _ => rfl)
    obtain ⟨l1, _, _, _, _⟩ := asrc_run (P := P) hs hrx hr h2 m (Nat.le_refl _)
    obtain ⟨_, us', q1, q2, q3⟩ := asrc_run (P := P) hsd hrx hr h2 m (Nat.le_refl _)
    obtain ⟨us0, hf1, hl0, hR0⟩ := hf0 _ hsd
    obtain ⟨newCap, rest, n1, n2, n3⟩ := run_append_grow (P := P) (w := w) (ty := ty) (us0 := us0) (us := us') (z := z) ht ht' ha0 ha1 hu hu' hd' hsz hi hz hbytes hzsz l1 hf1 q1 hlt h4 h5
    have hxd : Ext g0 w0 g { w with drawn := w.drawn + 1 } := hx.world (σ := σ) (fun _ _ => rfl) rfl rfl rfl (Nat.le_refl _)
    have hrun : (execOp a.eval o).run P w = .ok (.value (.slice (some ⟨w.heap.size, 0, none⟩) (n + m) newCap)) (({ w with drawn := w.drawn + 1 } : World).alloc (.cells (us0.toArray ++ us'.toArray ++ rest) e)) := by
      rw [ho]
      simp only [Sem.run_bind, n3, Result.andThen_ok, Sem.run_pure]
    have hsize : (us0.toArray ++ us'.toArray ++ rest).size = (cs0.map AV.pl ++ ds.map AV.pl ++ List.replicate ((newCap - (n + m)) * sz) AV.u).length := by
      simp [hl0, hlc, q2, h2, n2, Nat.add_assoc]
    have h1 := Ext.alloc_obj hsd (.cells (us0.toArray ++ us'.toArray ++ rest) e)
    refine stp_value hrun (hn _ _ _ _ (hk newCap n1) ⟨by rw [put_defers]; exact hd, _, hxd.trans h1, hsd.alloc_obj _ _ e hsize (fun j c v hc hv => ?_), ?_⟩)
    · rcases Nat.lt_or_ge j (us0.length + us'.length) with hj | hj
      · have hj' : j < (cs0.map AV.pl ++ ds.map AV.pl).length := by simp [hlc, h2]; omega
        rw [List.getElem?_append_left hj'] at hc
        rw [Array.getElem?_append_left (by simpa using hj)] at hv
        rcases Nat.lt_or_ge j us0.length with hj2 | hj2
        · rw [List.getElem?_append_left (by simp; omega), List.getElem?_map, Option.map_eq_some_iff] at hc
          obtain ⟨c0, hc0, rfl⟩ := hc
          rw [Array.getElem?_append_left (by simpa using hj2)] at hv
          exact ⟨((hR0 j c0 v hc0 (by simpa using hv)).pl).ext h1, ownOK_pl _ _ _ _⟩
        · rw [List.getElem?_append_right (by simp; omega), List.getElem?_map, Option.map_eq_some_iff] at hc
          obtain ⟨c0, hc0, rfl⟩ := hc
          rw [Array.getElem?_append_right (by simpa using hj2)] at hv
          have e1 : j - (cs0.map AV.pl).length = j - us0.length := by simp [hlc, hl0]
          rw [e1] at hc0
          exact ⟨((q3 _ c0 v hc0 (by simpa using hv)).pl).ext h1, ownOK_pl _ _ _ _⟩
      · have hj' : (cs0.map AV.pl ++ ds.map AV.pl).length ≤ j := by simp [hlc, h2]; omega
        rw [List.getElem?_append_right hj', List.getElem?_replicate] at hc
        split at hc
        · cases hc
          exact ⟨.u v, trivial⟩
        · cases hc
    · refine (he.ext h1 rfl).put' o.dst (.sm _ _ _ _ _ w.heap.size ?_ n1 (by omega)) (fun i _ => topOwn_of trivial (fun cs e => by cases e)) a rfl
      rw [← hs.len]
      simp
  unfold appM at h
  split at h <;> try exact h.elim
  · rename_i hev
    rw [hev] at hrs
    obtain ⟨⟨h2, h3, h4, h5⟩, hk0, hk1⟩ := h
    generalize hvs : a.eval s = sv at hrs
    cases hrs with
    | sl _ hnil => exact absurd rfl hnil
    | sl0 =>
      rcases Nat.eq_zero_or_pos m with hm | hm
      · subst hm
        obtain ⟨l1, us, l2, l3, l4⟩ := asrc_run (P := P) hs hrx hr h2 0 (Nat.le_refl _)
        have hus : us = [] := List.eq_nil_of_length_eq_zero (by simpa using l3)
        subst hus
        rw [hvs] at ha0
        have hrun : (execOp a.eval o).run P w = .ok (.value (.slice none 0 0)) w := by
          rw [ho]
          simp only [Sem.run_bind, run_append_in (P := P) (w := w) (w' := w) (ty := ty) ht ht' ha0 ha1 hu hu' hd' hsz l1 l2 (by omega) (by simp), Result.andThen_ok, Sem.run_pure]
        exact stp_value hrun (hn _ _ _ _ (hk0 rfl) ⟨by rw [put_defers]; exact hd, g, hx, hs, he.put' o.dst (.sl0 .nil) (fun i _ => topOwn_of trivial (fun cs e => by cases e)) a rfl⟩)
      · refine grow none 0 0 [] hvs (by omega) (by simp) h2 (by simpa using h4) (by simpa using h5) (fun w' _ => ⟨[], by simp [Builtin.firstCells], by simp, fun j c v hc => by simp at hc⟩) fun c hc => ?_
        have := hk1 hm c (by omega)
        simpa using this
  · rename_i id off n cap z0 hev
    split at h <;> try exact h.elim
    rename_i cur hobj
    obtain ⟨⟨rfl, h1, h2, h3, h4, h5⟩, hk0, hk1⟩ := h
    simp only at h1 h2 h3 h4 h5 hk0 hk1
    rw [hev] at hrs
    have hrs2 := hrs
    generalize hvs : a.eval s = sv at hrs
    cases hrs with
    | sm _ _ _ _ _ bk hb hnc hc48 =>
    rcases Nat.lt_or_ge cap (n + m) with hlt | hge
    · have hself : asrc σ z0 (.sm id off n cap z0) = some (n, (cur.drop off).take (n * z0)) := by simp [asrc, hobj]
      have hlc : ((cur.drop off).take (n * z0)).length = n * z0 := by simp; omega
      rw [hvs] at hrs2
      exact grow (some ⟨bk, off, none⟩) n cap _ hvs hlt hlc h2 h4 h5 (fun w' hs' => (asrc_run (P := P) hs' hrs2 hself hlc n (Nat.le_refl _)).2) fun c hc => hk1 hlt c hc
    · obtain ⟨h6, hk⟩ := hk0 hge
      obtain ⟨l1, us, l2, l3, l4⟩ := asrc_run (P := P) hs hrx hr h2 m (Nat.le_refl _)
      rw [hvs] at ha0
      have hone := cells_one (by omega) h3 l4
      obtain ⟨w', r1, r2, r3⟩ := storeCells_sim (P := P) hb (ds.map AV.pl) us 0 (off + n * z0) σ w cur hs hobj (by rw [List.length_map, h2]; rw [Nat.add_mul] at h6; omega) (by simp [l3, h2]) (fun j c v hc hv => by
        simp only [List.getElem?_map, Option.map_eq_some_iff] at hc
        obtain ⟨c0, hc0, rfl⟩ := hc
        exact ⟨(l4 j c0 v hc0 hv).pl, ownOK_pl _ _ _ _, hone v (List.mem_of_getElem? hv)⟩)
      have hrun : (execOp a.eval o).run P w = .ok (.value (.slice (some ⟨bk, off, none⟩) (n + m) cap)) w' := by
        rw [ho]
        simp only [Sem.run_bind, run_append_in (P := P) (w := w) (w' := w') (ty := ty) ht ht' ha0 ha1 hu hu' hd' hsz l1 l2 hge (by simp only [add_mk]; exact r1), Result.andThen_ok, Sem.run_pure]
      refine stp_value hrun (hn _ _ _ _ hk ⟨by rw [put_defers]; exact hd, g, hx.trans r3, by simpa using r2, ?_⟩)
      have he' := he.ext r3 rfl
      exact he'.put' o.dst (.sm _ _ _ _ _ bk hb hge (by omega)) (fun i _ => topOwn_of trivial (fun cs e => by cases e)) a rfl

end
end Go.Proofs.Ytoofpdmdgofdcaa.E

namespace Go.Proofs.Ytoofpdmdgofdcaa.E
open Go Go.RowKit
set_option linter.unusedVariables false
set_option linter.unusedSimpArgs false

variable {P : Program}

theorem Pl.ar (c : AV) : Pl c.ar := fun g i v => ⟨ownOK_ar g _ c v, fun cs vs e => absurd e (ar_tup c cs)⟩

theorem amakeIf_sound {g : Gh} {w : World} {t : TypeId} {x : AV} {vx : Value} {K : AV → Prop} (hx : R g.S g.ρ x vx) (h : amakeIf P t x K) : Gives P g w K (Instr.makeInterface t vx) := by
  unfold amakeIf at h
  split at h <;> try exact h.elim
  rename_i d hu hd
  refine ⟨_, .iface t vx, ?_, .ifc t x.ar vx hx.ar, pl_mk (by simp) (by simp), h⟩
  simp only [Instr.makeInterface, Sem.run_bind, run_und hd, Result.andThen_ok]
  cases d <;> first | rfl | (exact absurd hd (hu _))

theorem tup2 {S : Imm} {ρ : List Nat} {c : AV} {v : Value} (h : R S ρ c v) (b : Bool) : R S ρ (.tup [c.pl, .b b]) (.tuple #[v, .bool b]) :=
  .tup _ _ rfl fun j c' v' hc hv => by
    match j with
    | 0 => simp at hc hv; subst hc; subst hv; exact h.pl
    | 1 => simp at hc hv; subst hc; subst hv; exact .b b
    | j + 2 => simp at hc

theorem pl_tup2 (c : AV) (b : Bool) : Pl (.tup [c.pl, .b b]) := fun g i v => ⟨trivial, fun cs vs e1 e2 k c' v' hc hv => by
  cases e1
  match k with
  | 0 => simp at hc; subst hc; exact ownOK_pl _ _ _ _
  | 1 => simp at hc; subst hc; exact trivial
  | k + 2 => simp at hc⟩

theorem tzv_of {t : TypeId} {c : AV} (h : tzv P t = some c) (w : World) : ∃ z, (zeroValue t).run P w = .ok z w ∧ c = cst z := by
  unfold tzv at h
  cases e : P.info? t with
  | none => rw [e] at h; cases h
  | some i =>
    rw [e] at h
    simp only [Option.bind_some, Option.map_eq_some_iff] at h
    obtain ⟨z, h1, h2⟩ := h
    exact ⟨z, run_zero e h1 w, h2.symm⟩

theorem atypeAssert_sound {g : Gh} {w : World} {t xt : TypeId} {ok : Bool} {x : AV} {vx : Value} {K : AV → Prop} (hx : R g.S g.ρ x vx) (h : atypeAssert P x t ok K) : Gives P g w K (Instr.typeAssert vx xt t ok) := by
  unfold atypeAssert at h
  split at h <;> try exact h.elim
  rename_i d hd hu
  split at h <;> try exact h.elim
  · rename_i u y
    cases hx with
    | ifc _ _ v hv =>
    split at h
    · rename_i e
      subst e
      split at h
      · rename_i hok
        subst hok
        refine ⟨_, .tuple #[v, .bool true], ?_, tup2 hv true, pl_tup2 y true, h⟩
        simp only [Instr.typeAssert, Sem.run_bind, run_und hu, Result.andThen_ok]
        cases d <;> first | (exact absurd hu (hd _)) | simp
      · rename_i hok
        have hok' : ok = false := by simpa using hok
        subst hok'
        refine ⟨_, v, ?_, hv.pl, Pl.pl y, h⟩
        simp only [Instr.typeAssert, Sem.run_bind, run_und hu, Result.andThen_ok]
        cases d <;> first | (exact absurd hu (hd _)) | simp
    · rename_i e
      split at h <;> try exact h.elim
      rename_i hok
      subst hok
      obtain ⟨c, hc, hk⟩ := h
      obtain ⟨z, h1, rfl⟩ := tzv_of hc w
      refine ⟨_, .tuple #[z, .bool false], ?_, tup2 (R.cst _ _ z) false, pl_tup2 _ false, hk⟩
      simp only [Instr.typeAssert, Sem.run_bind, run_und hu, Result.andThen_ok]
      cases d <;> first | (exact absurd hu (hd _)) | simp [e, h1]
  · cases hx
    split at h <;> try exact h.elim
    rename_i hok
    subst hok
    obtain ⟨c, hc, hk⟩ := h
    obtain ⟨z, h1, rfl⟩ := tzv_of hc w
    refine ⟨_, .tuple #[z, .bool false], ?_, tup2 (R.cst _ _ z) false, pl_tup2 _ false, hk⟩
    simp only [Instr.typeAssert, Sem.run_bind, run_und hu, Result.andThen_ok]
    cases d <;> first | (exact absurd hu (hd _)) | simp [h1]

theorem mapList_R {G : Nat → AV} {g : Gh} {env : AEnv} {a : Act} (hG : GOK G g) (he : EnvOK g env a.tmps) (xs : Array Operand) (j : Nat) (c : AV) (v : Value) (hc : (xs.toList.map fun x => (ev G env x).ar)[j]? = some c) (hv : (xs.map a.eval)[j]? = some v) : R g.S g.ρ c v ∧ ∃ x : Operand, c = (ev G env x).ar := by
  simp only [List.getElem?_map, Option.map_eq_some_iff] at hc
  obtain ⟨x, hx, rfl⟩ := hc
  simp only [Array.getElem?_map, Option.map_eq_some_iff] at hv
  obtain ⟨y, hy, rfl⟩ := hv
  have : x = y := by
    have h1 : xs[j]? = some x := by simpa using hx
    rw [h1] at hy
    exact Option.some.inj hy
  subst this
  exact ⟨(R.ev hG he x).ar, x, rfl⟩

section
variable {G : Nat → AV} {g0 : Gh} {w0 : World} {D : List Deferred} {env : AEnv} {σ : AState} {a : Act} {w : World} {K : AEnv → AState → Prop} {Q : AX → AEnv → AState → Prop} {next : Act → World → Prop} {QQ : Exit → Act → World → Prop}

/-- The owners in temporaries are struck. -/
def onlyO (ow : Nat → Option (Slot × Nat × Nat)) : Nat → Option (Slot × Nat × Nat) := fun bk => match ow bk with
  | some (.o id j, x) => some (.o id j, x)
  | _ => none

theorem onlyO_some {ow : Nat → Option (Slot × Nat × Nat)} {bk : Nat} {y : Slot × Nat × Nat} (h : onlyO ow bk = some y) : ow bk = some y ∧ ∃ id j, y.1 = .o id j := by
  unfold onlyO at h
  split at h
  · rename_i id j x e
    cases h
    exact ⟨e, id, j, rfl⟩
  · cases h

theorem Sim.onlyO {g : Gh} (hs : Sim g σ w) : Sim { g with ow := E.onlyO g.ow } σ w :=
  hs.re_own _ (fun bk x h => ⟨x.1, (onlyO_some h).1⟩) (fun bk id j h e => by simp [E.onlyO, e])

/-- Back from a call: the caller's own rooms, beside what the callee tells. -/
def backOw (ow ow' : Nat → Option (Slot × Nat × Nat)) (d : Nat) : Nat → Option (Slot × Nat × Nat) := fun bk => match ow bk with
  | some (.t i k, x) => some (.t i k, x)
  | _ => match ow' bk with
    | some (.t _ k, x) => some (.t d k, x)
    | y => y

theorem backOw_t {ow ow' : Nat → Option (Slot × Nat × Nat)} {d bk i k : Nat} {x : Nat × Nat} (h : ow bk = some (.t i k, x)) : backOw ow ow' d bk = some (.t i k, x) := by simp [backOw, h]

theorem backOw_n {ow ow' : Nat → Option (Slot × Nat × Nat)} {d bk : Nat} (h : ∀ i k x, ow bk ≠ some (.t i k, x)) : backOw ow ow' d bk = match ow' bk with
    | some (.t _ k, x) => some (.t d k, x)
    | y => y := by
  unfold backOw
  split
  · rename_i e
    exact absurd e (h _ _ _)
  · rfl


theorem Ext.onlyO {g : Gh} : Ext g w { g with ow := E.onlyO g.ow } w where
  os := rfl
  tape := rfl
  output := rfl
  size := Nat.le_refl _
  S := fun _ _ _ h => h
  ρ := fun _ _ h => h
  keep := fun _ _ _ _ => ⟨rfl, fun _ => rfl⟩
  newρ := fun id _ h => .inr ⟨id, h⟩
  newow := fun bk x h => .inr (fun e => by rw [(onlyO_some h).1] at e; cases e)

/-- Back from a call. -/
theorem back {g g' : Gh} {σ' : AState} {w' : World} {d : Nat} {r : AV} {v : Value} (hx : Ext g0 w0 g w) (hs : Sim g σ w) (he : EnvOK g env a.tmps) (h1 : Ext { g with ow := E.onlyO g.ow } w g' w') (h2 : Sim g' σ' w') (h4 : TopOwn g' 0 r v) (h5 : OnlyR g') :
    Ext g0 w0 { g' with ow := backOw g.ow g'.ow d } w' ∧ Sim { g' with ow := backOw g.ow g'.ow d } σ' w' ∧ EnvOK { g' with ow := backOw g.ow g'.ow d } env a.tmps ∧ TopOwn { g' with ow := backOw g.ow g'.ow d } d r v := by
  have hobj : ∀ bk, g.ow bk ≠ none → ∀ id : Nat, g.ρ[id]? ≠ some bk := fun bk hne id hid => by
    have hid2 : id < σ.length := by rw [← hs.len]; exact (List.getElem?_eq_some_iff.1 hid).1
    have := hs.obj id _ (List.getElem?_eq_getElem hid2)
    cases ho : σ[id] with
    | cells cs =>
      rw [ho] at this
      obtain ⟨b1, us1, E1, fr1, m2, m3, m4, m5, m6, m7, m8⟩ := this
      rw [hid] at m2
      cases m2
      exact hne m7
    | map es =>
      rw [ho] at this
      obtain ⟨b1, ms, clock, m2, m3, m4, m6, m7, m8⟩ := this
      rw [hid] at m2
      cases m2
      exact hne m7
    | loop r es =>
      rw [ho] at this
      obtain ⟨b1, m2, m3, m4, m6, m7, m8⟩ := this
      rw [hid] at m2
      cases m2
      exact hne m7
    | it itn its es =>
      rw [ho] at this
      obtain ⟨b1, itx, m2, m3, m4, m6, m7, m8⟩ := this
      rw [hid] at m2
      cases m2
      exact hne m7
  have hgc : ∀ bk i k x, g.ow bk = some (.t i k, x) → E.onlyO g.ow bk = none := fun bk i k x e => by simp [E.onlyO, e]
  -- what the callee owns is none of the caller's temporaries'
  have hdis : ∀ bk i k x, g.ow bk = some (.t i k, x) → g'.ow bk = none := fun bk i k x e => by
    cases e1 : g'.ow bk with
    | none => rfl
    | some y =>
      rcases h1.newow bk y e1 with h6 | h6
      · have := hs.ow_lt e; omega
      · exact absurd (hgc bk i k x e) h6
  have hn : ∀ bk y, g'.ow bk = some y → ∀ i k x, g.ow bk ≠ some (.t i k, x) := fun bk y e i k x e2 => by
    rw [hdis bk i k x e2] at e
    cases e
  refine ⟨?_, ?_, ?_, ?_⟩
  · have h3 := (hx.trans (Ext.onlyO (g := g) (w := w))).trans h1
    refine { os := h3.os, tape := h3.tape, output := h3.output, size := h3.size, S := h3.S, ρ := h3.ρ, keep := h3.keep, newρ := h3.newρ, newow := ?_ }
    intro bk x e
    simp only [backOw] at e
    split at e
    · rename_i e2
      exact hx.newow bk _ e2
    · split at e
      · rename_i e2
        exact h3.newow bk _ e2
      · exact h3.newow bk x e
  · refine { imm := h2.imm, len := h2.len, inj := h2.inj, obj := ?_, own := ?_ }
    · intro id o ho
      have hob := h2.obj id o ho
      have hnone : ∀ bk, g'.ρ[id]? = some bk → g'.ow bk = none → backOw g.ow g'.ow d bk = none := fun bk e1 e2 => by
        have hnt : ∀ i k x, g.ow bk ≠ some (.t i k, x) := fun i k x e3 => by
          rcases h1.newρ id bk e1 with h6 | ⟨i0, h6⟩
          · have := hs.ow_lt e3; omega
          · exact hobj bk (by rw [e3]; simp) i0 h6
        rw [backOw_n hnt, e2]
      have hmono : ∀ (j : Nat) (c : AV) (v : Value), OwnOK g' (.o id j) c v → OwnOK { g' with ow := backOw g.ow g'.ow d } (.o id j) c v := fun j c v h => h.mono fun b x e => by
        exact (backOw_n (hn b _ e)).trans (by rw [e])
      cases o with
      | cells cs =>
        obtain ⟨b1, us1, E1, fr1, m2, m3, m4, m5, m6, m7, m8⟩ := hob
        exact ⟨b1, us1, E1, fr1, m2, m3, m4, m5, m6, hnone b1 m2 m7, fun j c v hc hv => ⟨(m8 j c v hc hv).1, hmono j c v (m8 j c v hc hv).2⟩⟩
      | map es =>
        obtain ⟨b1, ms, clock, m2, m3, m4, m6, m7, m8⟩ := hob
        exact ⟨b1, ms, clock, m2, m3, m4, m6, hnone b1 m2 m7, m8⟩
      | loop r es =>
        obtain ⟨b1, m2, m3, m4, m6, m7, m8⟩ := hob
        exact ⟨b1, m2, m3, m4, m6, hnone b1 m2 m7, m8⟩
      | it itn its es =>
        obtain ⟨b1, itx, m2, m3, m4, m6, m7, m8⟩ := hob
        exact ⟨b1, itx, m2, m3, m4, m6, hnone b1 m2 m7, m8⟩
    · intro bk s hh ee e
      simp only [backOw] at e
      split at e
      · rename_i i k x e2
        cases e
        obtain ⟨vs, E, fr, k1, k2, k3, k4⟩ := hs.own bk _ _ _ e2
        obtain ⟨q1, q2⟩ := h1.keep bk (heap_lt k1) (fun id => hobj bk (by rw [e2]; simp) id) (hgc bk i k _ e2)
        exact ⟨vs, E, fr, q1.trans k1, k2, k3, fun o ho => (q2 o).trans (k4 o ho)⟩
      · split at e
        · rename_i i k x e2
          cases e
          exact h2.own bk _ _ _ e2
        · exact h2.own bk _ _ _ e
  · refine ⟨he.1, fun i c v hc hv => ⟨((he.2 i c v hc hv).1.ext (Ext.onlyO (w := w))).ext h1, ?_⟩⟩
    have h6 := (he.2 i c v hc hv).2
    exact ⟨h6.1.mono fun b x e => backOw_t e, fun cs vs e1 e2 k c' v' h7 h8 => (h6.2 cs vs e1 e2 k c' v' h7 h8).mono fun b x e => backOw_t e⟩
  · exact ⟨h4.1.mono fun b x e => (backOw_n (hn b _ e)).trans (by rw [e]), fun cs vs e1 e2 k c' v' h7 h8 => (h4.2 cs vs e1 e2 k c' v' h7 h8).mono fun b x e => (backOw_n (hn b _ e)).trans (by rw [e])⟩

/-- Whatever is called: what comes of it, told in the caller's terms. -/
theorem stp_next {o : Oper} {g : Gh} {s : Sem Next} (hx : Ext g0 w0 g w) (hs : Sim g σ w) (he : EnvOK g env a.tmps) (hd : a.defers = D) (hn : NextOK g0 w0 D K next) (hp : PanOK g0 w0 D Q QQ)
    (h1 : Next1 P (PostA { g with ow := onlyO g.ow } w (callK K Q env o.dst)) (s.run P w)) (ho : execOp a.eval o = s) : Stp P o a w next QQ := by
  have hslot : ∃ d0, ∀ d, o.dst = some d → d0 = d := by
    cases o.dst with
    | none => exact ⟨0, fun d h => by cases h⟩
    | some d => exact ⟨d, fun d' h => by cases h; rfl⟩
  obtain ⟨d0, hd0⟩ := hslot
  have hret : ∀ v w', PostA { g with ow := onlyO g.ow } w (callK K Q env o.dst) (.returned v) w' → next (a.put o.dst v) w' := fun v w' hpost => by
    obtain ⟨r, σ', g', k1, k2, k3, k4, k5, k6⟩ := hpost
    obtain ⟨q1, q2, q3, q4⟩ := back (d := d0) hx hs he k2 k3 k5 k6
    refine hn _ _ _ _ k1 ⟨by rw [put_defers]; exact hd, _, q1, q2, ?_⟩
    exact q3.put' o.dst k4 (fun i hi => by rw [← hd0 i hi]; exact q4) a rfl
  have hpan : ∀ ch w', PostA { g with ow := onlyO g.ow } w (callK K Q env o.dst) (.panicked ch) w' → QQ (.panic ch) a w' := fun ch w' hpost => by
    obtain ⟨x, v, σ', g', rfl, k1, k2, k3, k4, k5⟩ := hpost
    exact hp x env σ' a w' v g' k1 hd ((hx.trans (Ext.onlyO (w := w))).trans k2) k3 k4
  intro r n
  rw [ho]
  cases hrun : s.run P w with
  | halt x w' => rw [hrun] at h1; exact h1.elim
  | ok nx w' =>
    rw [hrun] at h1
    cases nx with
    | value v => exact hret v w' h1
    | enter f' args' =>
      refine ⟨(fun h => by cases h), ?_⟩
      refine (callsIn_FW h1).mono fun e w'' he => ?_
      cases e with
      | returned v => exact hret v w'' he
      | panicked ch => exact hpan ch w'' he
      | outgrown => exact he.elim
    | row row args' =>
      refine ⟨(fun h => by cases h), ?_⟩
      intro c cs _
      obtain ⟨v, w'', k1, k2⟩ := h1 c cs
      exact ⟨v, w'', hret v w'' k1, stepsIn_wide.2 k2⟩
    | round l f' tmps assign body =>
      refine ⟨(fun h => by cases h), ?_⟩
      refine (h1 r (n - 1)).mono fun e w'' he => ?_
      cases e with
      | returned v => exact hret v w'' he
      | panicked ch => exact hpan ch w'' he
      | outgrown => exact he.elim
    | _ => exact h1.elim

theorem stp_call {o : Oper} {g : Gh} {f : FuncId} {args : List AV} {vs : Array Value} (hx : Ext g0 w0 g w) (hs : Sim g σ w) (he : EnvOK g env a.tmps) (hG : GOK G g) (hd : a.defers = D) (hn : NextOK g0 w0 D K next) (hp : PanOK g0 w0 D Q QQ)
    (hl : vs.size = args.length) (hR : ∀ (j : Nat) (c : AV) (v : Value), args[j]? = some c → vs[j]? = some v → R g.S g.ρ c v ∧ Pl c) (h : ACalls P G f args σ (callK K Q env o.dst)) (ho : execOp a.eval o = callFunc f vs) : Stp P o a w next QQ :=
  stp_next hx hs he hd hn hp (h _ w vs hs.onlyO (fun bk s hh e => by
    obtain ⟨id, j, e2⟩ := (onlyO_some e).2
    exact ⟨id, j, e2⟩) hG hl (fun j c v hc hv => ⟨(hR j c v hc hv).1, (hR j c v hc hv).2 _ j v⟩)) ho

theorem stp_yield {o : Oper} {g : Gh} {id bk : Nat} {args : List AV} {vs : Array Value} (hx : Ext g0 w0 g w) (hs : Sim g σ w) (he : EnvOK g env a.tmps) (hG : GOK G g) (hd : a.defers = D) (hn : NextOK g0 w0 D K next) (hp : PanOK g0 w0 D Q QQ)
    (hl : vs.size = args.length) (hR : ∀ (j : Nat) (c : AV) (v : Value), args[j]? = some c → vs[j]? = some v → R g.S g.ρ c v ∧ Pl c) (hb : g.ρ[id]? = some bk) (h : YCalls P G id args σ (callK K Q env o.dst)) (ho : execOp a.eval o = Instr.yield bk vs) : Stp P o a w next QQ :=
  stp_next hx hs he hd hn hp (h { g with ow := onlyO g.ow } w vs bk hs.onlyO (fun bk s hh e => by
    obtain ⟨id, j, e2⟩ := (onlyO_some e).2
    exact ⟨id, j, e2⟩) hG hl (fun j c v hc hv => ⟨(hR j c v hc hv).1, (hR j c v hc hv).2 _ j v⟩) hb) ho

end
end Go.Proofs.Ytoofpdmdgofdcaa.E

namespace Go.Proofs.Ytoofpdmdgofdcaa.E
open Go Go.RowKit
set_option linter.unusedVariables false
set_option linter.unusedSimpArgs false

variable {P : Program}

section
variable {G : Nat → AV} {g0 g : Gh} {w0 : World} {D : List Deferred} {env : AEnv} {σ : AState} {a : Act} {w : World} {K : AEnv → AState → Prop} {Q : AX → AEnv → AState → Prop} {next : Act → World → Prop} {QQ : Exit → Act → World → Prop}

/-- A new object that is no row of cells. -/
theorem Sim.alloc_any (hs : Sim g σ w) (O : AObj) (o : Obj) (hO : ObjOK { g with ρ := g.ρ ++ [w.heap.size] } (w.alloc o) σ.length O) :
    Sim { g with ρ := g.ρ ++ [w.heap.size] } (σ ++ [O]) (w.alloc o) where
  imm := fun bk of v h => by
    have h1 := hs.imm bk of v h
    have h2 := heap_alloc_lt (o := o) (hs.S_lt h)
    simp only [World.cell?] at *
    rw [h2]
    exact h1
  len := by simp [hs.len]
  inj := fun i j bk h1 h2 => by
    rcases ρ_app_cases h1 with h1 | ⟨h1, h1'⟩ <;> rcases ρ_app_cases h2 with h2 | ⟨h2, h2'⟩
    · exact hs.inj i j bk h1 h2
    · have := hs.ρ_lt h1; omega
    · have := hs.ρ_lt h2; omega
    · omega
  obj := fun id O' ho => by
    have hx := Ext.alloc_obj hs o
    rcases Nat.lt_or_ge id σ.length with hlt | hge
    · rw [List.getElem?_append_left hlt] at ho
      have h1 := hs.obj id O' ho
      cases O' with
      | cells cs =>
        obtain ⟨bk, us, E', fr', h2, h3, h4, h5, h6, h7, h8⟩ := h1
        exact ⟨bk, us, E', fr', ρ_app h2, (heap_alloc_lt (heap_lt h3)).trans h3, h4, h5, h6, h7, fun j c v hc hv => ⟨(h8 j c v hc hv).1.ext hx, (h8 j c v hc hv).2⟩⟩
      | map es =>
        obtain ⟨bk, ms, clock, h2, h3, h4, h6, h7, h8⟩ := h1
        exact ⟨bk, ms, clock, ρ_app h2, (heap_alloc_lt (heap_lt h3)).trans h3, h4, h6, h7, fun j c v hc hv => ⟨(h8 j c v hc hv).1.ext hx, (h8 j c v hc hv).2.ext hx⟩⟩
      | loop r es =>
        obtain ⟨bk, h2, h3, h4, h6, h7, h8⟩ := h1
        exact ⟨bk, ρ_app h2, (heap_alloc_lt (heap_lt h3)).trans h3, h4, h6, h7, fun j c v hc hv => (h8 j c v hc hv).ext hx⟩
      | it n se ms =>
        obtain ⟨bk, x, h2, h3, h4, h6, h7, h8⟩ := h1
        exact ⟨bk, x, ρ_app h2, (heap_alloc_lt (heap_lt h3)).trans h3, h4, h6, h7, fun j c v hc hv => (h8 j c v hc hv).ext hx⟩
    · rw [List.getElem?_append_right hge] at ho
      rcases Nat.eq_or_lt_of_le hge with h2 | h2
      · subst h2
        simp at ho
        subst ho
        exact hO
      · rw [List.getElem?_eq_none (by simp; omega)] at ho
        cases ho
  own := fun bk sl hh ee ho => by
    obtain ⟨vs, E, fr, k1, k2⟩ := hs.own bk sl hh ee ho
    exact ⟨vs, E, fr, (heap_alloc_lt (heap_lt k1)).trans k1, k2⟩

/-- An object that is no row of cells is another one now. -/
theorem Sim.put_any {id bk : Nat} {O : AObj} {o : Obj} (hs : Sim g σ w) (hid : id < σ.length) (hb : g.ρ[id]? = some bk) (hS : ∀ o, g.S bk o = none) (how : g.ow bk = none) (hO : ObjOK g (w.putObj bk o) id O) : Sim g (σ.set id O) (w.putObj bk o) := by
  have hne : ∀ k, k ≠ bk → (w.putObj bk o).heap[k]? = w.heap[k]? := fun k hk => World.putObj_heap_other hk
  refine { imm := fun b of v h => ?_, len := by rw [List.length_set]; exact hs.len, inj := hs.inj, obj := fun j O' ho' => ?_, own := fun b sl h e hh => ?_ }
  · have h1 := hs.imm b of v h
    have hbk : b ≠ bk := fun e => by
      subst e
      rw [hS] at h
      cases h
    simp only [World.cell?] at h1 ⊢
    rw [hne b hbk]
    exact h1
  · rw [List.getElem?_set] at ho'
    by_cases e : id = j
    · subst e
      simp only [if_true, hid] at ho'
      cases ho'
      exact hO
    · simp only [e, if_false] at ho'
      have h1 := hs.obj j O' ho'
      cases O' with
      | cells cs =>
        obtain ⟨b1, vs, E, fr, m2, m3, m4⟩ := h1
        exact ⟨b1, vs, E, fr, m2, (hne b1 (fun eb => e (hs.inj id j bk hb (eb ▸ m2)))).trans m3, m4⟩
      | map es =>
        obtain ⟨b1, ms, clock, m2, m3, m4⟩ := h1
        exact ⟨b1, ms, clock, m2, (hne b1 (fun eb => e (hs.inj id j bk hb (eb ▸ m2)))).trans m3, m4⟩
      | loop r es =>
        obtain ⟨b1, m2, m3, m4⟩ := h1
        exact ⟨b1, m2, (hne b1 (fun eb => e (hs.inj id j bk hb (eb ▸ m2)))).trans m3, m4⟩
      | it n se ms =>
        obtain ⟨b1, x, m2, m3, m4⟩ := h1
        exact ⟨b1, x, m2, (hne b1 (fun eb => e (hs.inj id j bk hb (eb ▸ m2)))).trans m3, m4⟩
  · obtain ⟨vs, E, fr, k1, k2⟩ := hs.own b sl h e hh
    exact ⟨vs, E, fr, (hne b (fun e1 => by rw [e1, how] at hh; cases hh)).trans k1, k2⟩

theorem Ext.put_any {id bk : Nat} (hb : g.ρ[id]? = some bk) (o : Obj) : Ext g w g (w.putObj bk o) where
  os := rfl
  tape := rfl
  output := rfl
  size := by simp
  S := fun _ _ _ h => h
  ρ := fun _ _ h => h
  keep := fun b h1 h2 h3 => ⟨World.putObj_heap_other (fun e => h2 id (e ▸ hb)), fun _ => rfl⟩
  newρ := fun id _ h => .inr ⟨id, h⟩
  newow := fun _ _ h => .inr (by rw [h]; simp)

/-- A new object that is no row of cells, as a step. -/
theorem stp_new {o : Oper} (hx : Ext g0 w0 g w) (hs : Sim g σ w) (he : EnvOK g env a.tmps) (hd : a.defers = D) (hn : NextOK g0 w0 D K next) (O : AObj) (ob : Obj)
    (hO : ObjOK { g with ρ := g.ρ ++ [w.heap.size] } (w.alloc ob) σ.length O)
    {c : AV} {v : Value} (hc : R g.S (g.ρ ++ [w.heap.size]) c v) (hp : Pl c) (hk : K (aput env o.dst c) (σ ++ [O])) (ho : (execOp a.eval o).run P w = .ok (.value v) (w.alloc ob)) : Stp P o a w next QQ := by
  have h1 := Ext.alloc_obj hs ob
  refine stp_value ho (hn _ _ _ _ hk ⟨by rw [put_defers]; exact hd, _, hx.trans h1, hs.alloc_any O ob hO, ?_⟩)
  exact (he.ext h1 rfl).put' o.dst hc (fun i _ => hp _ i v) a rfl

theorem ρ_new (hs : Sim g σ w) : (g.ρ ++ [w.heap.size])[σ.length]? = some w.heap.size := by rw [← hs.len]; simp
theorem ow_new (hs : Sim g σ w) : g.ow w.heap.size = none := by
  cases e : g.ow w.heap.size with
  | none => rfl
  | some x => have := hs.ow_lt e; omega

theorem stp_makeMap {o : Oper} {t : TypeId} (hx : Ext g0 w0 g w) (hs : Sim g σ w) (he : EnvOK g env a.tmps) (hd : a.defers = D) (hn : NextOK g0 w0 D K next)
    (hk : K (aput env o.dst (.mp σ.length)) (σ ++ [.map []])) (ho : execOp a.eval o = (do pure (.value (← Instr.makeMap t none)))) : Stp P o a w next QQ := by
  refine stp_new (v := .map (some w.heap.size)) hx hs he hd hn (.map []) (.map #[] 0) ?_ (.mp _ _ (ρ_new hs)) (pl_mk (by simp) (by simp)) hk ?_
  · exact ⟨w.heap.size, #[], 0, ρ_new hs, heap_alloc_new w _, ⟨rfl, rfl, fun j m h => by simp at h⟩, fun o => hs.S_new (Nat.le_refl _) o, show g.ow w.heap.size = none from ow_new hs, fun j e m h => by simp at h⟩
  · rw [ho]
    simp only [Instr.makeMap, Sem.run_bind, run_newObj, Result.andThen_ok, Sem.run_pure]
    rfl

/-- The entries of a map, as they are told. -/
def EntOK (g : Gh) (es : List (AV × AV)) (ms : List MapEntry) : Prop := ms.length = es.length ∧ ∀ (j : Nat) (e : AV × AV) (m : MapEntry), es[j]? = some e → ms[j]? = some m → R g.S g.ρ e.1 m.key ∧ R g.S g.ρ e.2 m.val

theorem findNow_sound (l : List UInt8) : ∀ (es : List (AV × AV)) (ms : List MapEntry) (i : Nat) (r : Option Nat), EntOK g es ms → mfind l es = some r →
    Instr.findNow .string (.string ⟨l.toArray⟩) ms i = some (r.bind fun j => (ms[j]?).map fun m => (i + j, m.val)) ∧ ∀ j, r = some j → j < es.length
  | [], [], i, r, _, h => by
    simp only [mfind, Option.some.injEq] at h
    subst h
    exact ⟨rfl, fun j h => by cases h⟩
  | [], m :: ms, i, r, h, _ => by simp [EntOK] at h
  | e :: es, [], i, r, h, _ => by simp [EntOK] at h
  | e :: es, m :: ms, i, r, h, hf => by
    obtain ⟨h1, h2⟩ := h
    have h0 := h2 0 e m rfl rfl
    have hr : EntOK g es ms := ⟨by simpa using h1, fun j e' m' x y => h2 (j + 1) e' m' (by simpa using x) (by simpa using y)⟩
    obtain ⟨ek, ev'⟩ := e
    simp only [mfind] at hf
    split at hf <;> try (cases hf; done)
    rename_i xx l'
    obtain ⟨mk, mv, mb⟩ := m
    obtain ⟨h01, h02⟩ := h0
    cases h01
    simp only [Instr.findNow, Instr.sameNow, bytes_beq]
    by_cases hll : l = l'
    · rw [if_pos hll] at hf
      cases hf
      subst hll
      simp
    · rw [if_neg hll] at hf
      simp only [Option.map_eq_some_iff] at hf
      obtain ⟨r', hr', rfl⟩ := hf
      obtain ⟨q1, q2⟩ := findNow_sound l es ms (i + 1) r' hr hr'
      have : (l == l') = false := by simpa using hll
      simp only [this, q1]
      refine ⟨?_, fun j hj => ?_⟩
      · cases r' with
        | none => rfl
        | some j =>
          simp only [Option.map_some, Option.bind_some, List.getElem?_cons_succ]
          rw [show i + 1 + j = i + (j + 1) by omega]
      · cases r' with
        | none => cases hj
        | some k =>
          cases hj
          have := q2 k rfl
          simp
          omega

theorem mfind_key {l : List UInt8} : ∀ {es : List (AV × AV)} {ms : List MapEntry} {r : Option Nat}, EntOK g es ms → mfind l es = some r → ∀ j, r = some j → ∀ m, ms[j]? = some m → m.key = .string ⟨l.toArray⟩
  | [], _, r, _, h, j, hj, m, hm => by
    simp only [mfind, Option.some.injEq] at h
    subst h
    cases hj
  | e :: es, [], r, h, _, j, hj, m, hm => by simp [EntOK] at h
  | e :: es, m0 :: ms, r, h, hf, j, hj, m, hm => by
    obtain ⟨h1, h2⟩ := h
    have h0 := h2 0 e m0 rfl rfl
    have hr : EntOK g es ms := ⟨by simpa using h1, fun j e' m' x y => h2 (j + 1) e' m' (by simpa using x) (by simpa using y)⟩
    obtain ⟨ek, ev'⟩ := e
    simp only [mfind] at hf
    split at hf <;> try (cases hf; done)
    rename_i xx l'
    obtain ⟨mk, mv, mb⟩ := m0
    obtain ⟨h01, h02⟩ := h0
    cases h01
    by_cases hll : l = l'
    · rw [if_pos hll] at hf
      cases hf
      cases hj
      subst hll
      simp at hm
      subst hm
      rfl
    · rw [if_neg hll] at hf
      simp only [Option.map_eq_some_iff] at hf
      obtain ⟨r', hr', rfl⟩ := hf
      cases r' with
      | none => cases hj
      | some k =>
        cases hj
        exact mfind_key hr hr' k rfl m (by simpa using hm)

theorem findKey_sound {kt : TypeId} {l : List UInt8} {es : List (AV × AV)} {ms : List MapEntry} {r : Option Nat} (hk : P.underlying kt = some .string) (he : EntOK g es ms) (hf : mfind l es = some r) (w : World) :
    (Instr.findKey kt (.string ⟨l.toArray⟩) ms).run P w = .ok (r.bind fun j => (ms[j]?).map fun m => (j, m.val)) w := by
  obtain ⟨h1, _⟩ := findNow_sound l es ms 0 r he hf
  simp only [Instr.findKey, Sem.run_bind, run_und hk, Result.andThen_ok, h1, Sem.run_pure, Nat.zero_add]

theorem checkKey_str' {kt : TypeId} (hk : P.underlying kt = some .string) (b : Bool) (v : Value) (w : World) (n : Nat) : (Instr.checkKey b (n + 1) kt v).run P w = .ok () w := by
  unfold Instr.checkKey
  simp only [Sem.run_bind, run_und hk, Result.andThen_ok, Sem.run_pure]

theorem checkKey_str {kt : TypeId} (hk : P.underlying kt = some .string) (b : Bool) (v : Value) (w : World) : (Instr.checkKey b 10000 kt v).run P w = .ok () w := checkKey_str' hk b v w 9999

theorem mapEnt {id bk : Nat} {es : List (AV × AV)} (hs : Sim g σ w) (ho : σ[id]? = some (.map es)) (hb : g.ρ[id]? = some bk) :
    ∃ ms : List MapEntry, w.heap[bk]? = some (.map ms.toArray es.length) ∧ EntOK g es ms ∧ (∀ (j : Nat) (m : MapEntry), ms[j]? = some m → m.born = j) ∧ (∀ o, g.S bk o = none) ∧ g.ow bk = none := by
  obtain ⟨b1, ms, clock, m2, m3, ⟨m4, m5, m6⟩, m7, m8, m9⟩ := hs.obj id _ ho
  rw [hb] at m2
  cases m2
  subst m5
  obtain ⟨ms⟩ := ms
  exact ⟨ms, m3, ⟨by simpa using m4, fun j e m h1 h2 => m9 j e m h1 (by simpa using h2)⟩, fun j m h => m6 j m (by simpa using h), m7, m8⟩

theorem alookup_sound {t : TypeId} {m k : AV} {vm vk : Value} {ok : Bool} {K : AV → Prop} (hs : Sim g σ w) (hm : R g.S g.ρ m vm) (hk : R g.S g.ρ k vk) (h : alookup P σ t m k ok K) : Gives P g w K (Instr.lookup t vm vk ok) := by
  unfold alookup at h
  split at h <;> try exact h.elim
  rename_i kt et l hu
  obtain ⟨hks, ⟨c, b⟩, hg, hK⟩ := h
  cases hk
  simp only [Option.bind_eq_some_iff] at hg
  obtain ⟨es, hes, hg⟩ := hg
  have hms : ∃ ms : List MapEntry, EntOK g es ms ∧ ((vm = .map none ∧ ms = []) ∨ ∃ r n, vm = .map (some r) ∧ w.heap[r]? = some (.map ms.toArray n)) := by
    unfold mapAt at hes
    split at hes <;> try (cases hes; done)
    · cases hes
      cases hm
      exact ⟨[], ⟨rfl, fun j e m h => by simp at h⟩, .inl ⟨rfl, rfl⟩⟩
    · rename_i id
      split at hes <;> try (cases hes; done)
      rename_i es' ho
      cases hes
      cases hm with
      | mp _ bk hb =>
        obtain ⟨ms, q1, q2, _⟩ := mapEnt hs ho hb
        exact ⟨ms, q2, .inr ⟨bk, _, rfl, q1⟩⟩
  obtain ⟨ms, he, hvm⟩ := hms
  have fin : ∀ v, R g.S g.ρ c v → (Instr.lookup t vm (.string ⟨l.toArray⟩) ok).run P w = .ok (if ok = true then Value.tuple #[v, .bool b] else v) w → Gives P g w K (Instr.lookup t vm (.string ⟨l.toArray⟩) ok) := fun v hv hr => by
    unfold lookK at hK
    cases ok with
    | true => exact ⟨_, _, hr, tup2 hv b, pl_tup2 _ b, hK⟩
    | false => exact ⟨_, _, hr, hv.pl, Pl.pl _, hK⟩
  unfold mget at hg
  split at hg <;> try (cases hg; done)
  · rename_i j hj
    simp only [Option.map_eq_some_iff] at hg
    obtain ⟨e, hej, he2⟩ := hg
    cases he2
    have hlt : j < ms.length := by rw [he.1]; exact (List.getElem?_eq_some_iff.1 hej).1
    have hmj : ms[j]? = some ms[j] := List.getElem?_eq_getElem hlt
    refine fin ms[j].val (he.2 j e _ hej hmj).2 ?_
    have hfk := findKey_sound hks he hj w
    rcases hvm with ⟨rfl, rfl⟩ | ⟨r, n, rfl, hw⟩
    · simp at hlt
    · simp only [Instr.lookup, Sem.run_bind, run_und hu, Result.andThen_ok, getObj, Sem.run, hw, Sem.run_pure, checkKey_str hks, hfk, Option.bind_some, hmj, Option.map_some]
  · rename_i hj
    simp only [Option.map_eq_some_iff] at hg
    obtain ⟨z, hz, he2⟩ := hg
    cases he2
    obtain ⟨zv, h1, rfl⟩ := tzv_of hz w
    refine fin zv (R.cst _ _ zv) ?_
    have hfk := findKey_sound hks he hj w
    rcases hvm with ⟨rfl, rfl⟩ | ⟨r, n, rfl, hw⟩
    · simp only [Instr.lookup, Sem.run_bind, run_und hu, Result.andThen_ok, Sem.run_pure, checkKey_str hks, hfk, Option.bind_none, h1]
    · simp only [Instr.lookup, Sem.run_bind, run_und hu, Result.andThen_ok, getObj, Sem.run, hw, Sem.run_pure, checkKey_str hks, hfk, Option.bind_none, h1]

def putE (kv v : Value) (n : Nat) (ms : List MapEntry) : Option Nat → List MapEntry
  | some j => ms.modify j fun e => { e with key := kv, val := v }
  | none => ms ++ [{ key := kv, val := v, born := n }]

theorem EntOK.put {es : List (AV × AV)} {ms : List MapEntry} {l : List UInt8} {c : AV} {v : Value} {kv : Value} (h : EntOK g es ms) (hk : R g.S g.ρ (.s l) kv) (hv : R g.S g.ρ c v) (r : Option Nat) (hr : ∀ j, r = some j → j < es.length) :
    EntOK g (putM l c es r) (putE kv v es.length ms r) := by
  cases r with
  | none =>
    refine ⟨by simp [putM, putE, h.1], fun j e m he hm => ?_⟩
    simp only [putM, putE] at he hm
    rcases Nat.lt_or_ge j es.length with hlt | hge
    · rw [List.getElem?_append_left hlt] at he
      rw [List.getElem?_append_left (by rw [h.1]; exact hlt)] at hm
      exact h.2 j e m he hm
    · rw [List.getElem?_append_right hge] at he
      rw [List.getElem?_append_right (by rw [h.1]; exact hge)] at hm
      rw [h.1] at hm
      rcases Nat.eq_or_lt_of_le hge with h2 | h2
      · subst h2
        simp at he hm
        subst he
        subst hm
        exact ⟨hk, hv⟩
      · rw [List.getElem?_eq_none (by simp; omega)] at he
        cases he
  | some i =>
    have hi := hr i rfl
    refine ⟨by simp [putM, putE, h.1], fun j e m he hm => ?_⟩
    simp only [putM, putE] at he hm
    rw [List.getElem?_modify] at hm
    rw [List.getElem?_set] at he
    by_cases hij : i = j
    · subst hij
      simp only [if_true, hi] at he hm
      cases he
      cases hmi : ms[i]? with
      | none => rw [hmi] at hm; cases hm
      | some m0 =>
        rw [hmi] at hm
        simp at hm
        subst hm
        exact ⟨hk, hv⟩
    · simp only [hij, if_false] at he hm
      exact h.2 j e m he (by simpa using hm)

theorem stp_mapUpdate {o : Oper} {t : TypeId} {m k x : Operand} (hx : Ext g0 w0 g w) (hs : Sim g σ w) (he : EnvOK g env a.tmps) (hG : GOK G g) (hd : a.defers = D) (hn : NextOK g0 w0 D K next)
    (h : amapUpdate P G env σ t m k x K) (hdst : o.dst = none) (ho : execOp a.eval o = (do Instr.mapUpdate t (a.eval m) (a.eval k) (a.eval x); pure .skip)) : Stp P o a w next QQ := by
  have hrm := R.ev hG he m
  have hrk := R.ev hG he k
  have hrx := (R.ev hG he x).pl
  unfold amapUpdate at h
  split at h <;> try exact h.elim
  rename_i kt et id l hu hem hek
  rw [hem] at hrm
  rw [hek] at hrk
  generalize a.eval m = vm at hrm ho
  generalize a.eval k = vk at hrk ho
  generalize a.eval x = vx at hrx ho
  split at h <;> try exact h.elim
  rename_i es hes
  obtain ⟨hks, r, hf, hK⟩ := h
  cases hrm with
  | mp _ bk hb =>
  have hrk' := hrk
  cases hrk with
  | s _ hl =>
  obtain ⟨ms, q1, q2, q3, q4, q5⟩ := mapEnt hs hes hb
  have hfk := findKey_sound hks q2 hf w
  have hrb := (findNow_sound l es ms 0 r q2 hf).2
  have hlt := heap_lt q1
  have hid : id < σ.length := (List.getElem?_eq_some_iff.1 hes).1
  generalize hms' : putE (.string ⟨l.toArray⟩) vx es.length ms r = ms'
  have hent : EntOK g (putM l (ev G env x).pl es r) ms' := hms' ▸ q2.put hrk' hrx r hrb
  have hborn : ∀ (j : Nat) (m : MapEntry), ms'[j]? = some m → m.born = j := fun j m hm => by
    subst hms'
    cases r with
    | none =>
      simp only [putE] at hm
      rcases Nat.lt_or_ge j ms.length with h1 | h1
      · rw [List.getElem?_append_left h1] at hm
        exact q3 j m hm
      · rw [List.getElem?_append_right h1] at hm
        rcases Nat.eq_or_lt_of_le h1 with h2 | h2
        · subst h2
          simp at hm
          subst hm
          exact q2.1.symm
        · rw [List.getElem?_eq_none (by simp; omega)] at hm
          cases hm
    | some i =>
      simp only [putE] at hm
      rw [List.getElem?_modify] at hm
      cases hmi : ms[j]? with
      | none => rw [hmi] at hm; cases hm
      | some m0 =>
        rw [hmi] at hm
        have := q3 j m0 hmi
        split at hm <;> (simp at hm; subst hm; exact this)
  have hrun : (Instr.mapUpdate t (.map (some bk)) (.string ⟨l.toArray⟩) vx).run P w = .ok () (w.putObj bk (.map ms'.toArray (putM l (ev G env x).pl es r).length)) := by
    subst hms'
    simp only [Instr.mapUpdate, Sem.run_bind, run_und hu, Result.andThen_ok, getObj, Sem.run, q1, Sem.run_pure, checkKey_str hks, hfk]
    cases r with
    | none =>
      simp only [Option.bind_none, setObj, Sem.run, q1]
      simp [putM, putE, World.putObj]
    | some i =>
      have hi := hrb i rfl
      have hims : i < ms.length := by rw [q2.1]; exact hi
      have hmi : ms[i]? = some ms[i] := List.getElem?_eq_getElem hims
      have hkey : ms[i].key = .string ⟨l.toArray⟩ := by
        have hei : es[i]? = some es[i] := List.getElem?_eq_getElem hi
        exact mfind_key q2 hf i rfl _ hmi
      simp only [Option.bind_some, hmi, Option.map_some, List.getElem?_toArray, hkey, Option.getD_some, Instr.keyThatStays, Instr.sameBits, bytes_beq, beq_self_eq_true, if_true, Sem.run_pure, Sem.run_bind, Result.andThen_ok, setObj, Sem.run, q1]
      simp [putM, putE, World.putObj]
  refine stp_skip (w' := w.putObj bk (.map ms'.toArray (putM l (ev G env x).pl es r).length)) (by rw [ho]; simp only [Sem.run_bind, hrun, Result.andThen_ok, Sem.run_pure]) ?_
  rw [hdst]
  refine hn _ _ _ _ hK ⟨hd, g, hx.trans (Ext.put_any hb _), hs.put_any hid hb q4 q5 ⟨bk, ms'.toArray, _, hb, World.putObj_heap_same hlt, ⟨by simpa using hent.1, rfl, fun j m hm => hborn j m (by simpa using hm)⟩, q4, q5, fun j e m h1 h2 => hent.2 j e m h1 (by simpa using h2)⟩, he⟩

theorem stp_range {o : Oper} {t : TypeId} {x : Operand} (hx : Ext g0 w0 g w) (hs : Sim g σ w) (he : EnvOK g env a.tmps) (hG : GOK G g) (hd : a.defers = D) (hn : NextOK g0 w0 D K next)
    (h : arange P σ t (ev G env x) (KvS K env o.dst)) (ho : execOp a.eval o = (do pure (.value (← Instr.range t (a.eval x))))) : Stp P o a w next QQ := by
  have hrx := R.ev hG he x
  unfold arange at h
  split at h <;> try exact h.elim
  rename_i kt et id hu hex
  rw [hex] at hrx
  generalize a.eval x = vx at hrx ho
  split at h <;> try exact h.elim
  rename_i es hes
  cases hrx with
  | mp _ bk hb =>
  obtain ⟨ms, q1, q2, q3, q4, q5⟩ := mapEnt hs hes hb
  refine stp_new (v := .pointer (some ⟨w.heap.size, 0, none⟩)) hx hs he hd hn _ (.mapIter (some bk) es.length #[] es.length) ?_ (.pm _ _ _ (ρ_new hs)) (pl_mk (by simp) (by simp)) h ?_
  · refine ⟨w.heap.size, some bk, ρ_new hs, heap_alloc_new w _, rfl, fun o => hs.S_new (Nat.le_refl _) o, show g.ow w.heap.size = none from ow_new hs, fun j c v hc hv => ?_⟩
    match j with
    | 0 =>
      simp at hc hv
      subst hc
      subst hv
      exact .mp _ _ (ρ_app hb)
    | j + 1 => simp at hc
  · rw [ho]
    simp only [Instr.range, Sem.run_bind, run_und hu, Result.andThen_ok, getObj, Sem.run, q1, Sem.run_pure, run_newObj]
    rfl

theorem tup3 {S : Imm} {ρ : List Nat} {c d : AV} {v u : Value} (h : R S ρ c v) (h' : R S ρ d u) (b : Bool) : R S ρ (.tup [.b b, c.pl, d.pl]) (.tuple #[.bool b, v, u]) :=
  .tup _ _ rfl fun j c' v' hc hv => by
    match j with
    | 0 => simp at hc hv; subst hc; subst hv; exact .b b
    | 1 => simp at hc hv; subst hc; subst hv; exact h.pl
    | 2 => simp at hc hv; subst hc; subst hv; exact h'.pl
    | j + 3 => simp at hc

theorem pl_tup3 (c d : AV) (b : Bool) : Pl (.tup [.b b, c.pl, d.pl]) := fun g i v => ⟨trivial, fun cs vs e1 e2 k c' v' hc hv => by
  cases e1
  match k with
  | 0 => simp at hc; subst hc; exact trivial
  | 1 => simp at hc; subst hc; exact ownOK_pl _ _ _ _
  | 2 => simp at hc; subst hc; exact ownOK_pl _ _ _ _
  | k + 3 => simp at hc⟩

theorem tup22 {S : Imm} {ρ : List Nat} {c d : AV} {v u : Value} (h : R S ρ c v) (h' : R S ρ d u) : R S ρ (.tup [c.pl, d.pl]) (.tuple #[v, u]) :=
  .tup _ _ rfl fun j c' v' hc hv => by
    match j with
    | 0 => simp at hc hv; subst hc; subst hv; exact h.pl
    | 1 => simp at hc hv; subst hc; subst hv; exact h'.pl
    | j + 2 => simp at hc

theorem pl_tup22 (c d : AV) : Pl (.tup [c.pl, d.pl]) := fun g i v => ⟨trivial, fun cs vs e1 e2 k c' v' hc hv => by
  cases e1
  match k with
  | 0 => simp at hc; subst hc; exact ownOK_pl _ _ _ _
  | 1 => simp at hc; subst hc; exact ownOK_pl _ _ _ _
  | k + 2 => simp at hc⟩

theorem tup1 {S : Imm} {ρ : List Nat} (b : Bool) : R S ρ (.tup [.b b]) (.tuple #[.bool b]) :=
  .tup _ _ rfl fun j c' v' hc hv => by
    match j with
    | 0 => simp at hc hv; subst hc; subst hv; exact .b b
    | j + 1 => simp at hc

theorem pl_tup1 (b : Bool) : Pl (.tup [.b b]) := fun g i v => ⟨trivial, fun cs vs e1 e2 k c' v' hc hv => by
  cases e1
  match k with
  | 0 => simp at hc; subst hc; exact trivial
  | k + 1 => simp at hc⟩

theorem itOf {iid n mid : Nat} {seen : List Nat} (hs : Sim g σ w) (ho : σ[iid]? = some (.it n seen [.mp mid])) {bk : Nat} (hb : g.ρ[iid]? = some bk) :
    ∃ mb, g.ρ[mid]? = some mb ∧ w.heap[bk]? = some (.mapIter (some mb) n seen.toArray n) ∧ (∀ o, g.S bk o = none) ∧ g.ow bk = none := by
  obtain ⟨b1, x, m2, m3, m4, m6, m7, m8⟩ := hs.obj iid _ ho
  rw [hb] at m2
  cases m2
  have := m8 0 _ _ rfl rfl
  cases this with
  | mp _ mb h => exact ⟨mb, h, m3, m6, m7⟩

theorem stp_mapNext {o : Oper} {x : Operand} {isStr : Bool} {ty : TypeId} (hx : Ext g0 w0 g w) (hs : Sim g σ w) (he : EnvOK g env a.tmps) (hG : GOK G g) (hd : a.defers = D) (hn : NextOK g0 w0 D K next)
    (h : anext σ (ev G env x) isStr (KvS K env o.dst)) (ho : execOp a.eval o = (do pure (.value (← Instr.next (a.eval x) isStr ty)))) : Stp P o a w next QQ := by
  have hrx := R.ev hG he x
  unfold anext at h
  split at h <;> try exact h.elim
  rename_i iid hex
  rw [hex] at hrx
  generalize a.eval x = vx at hrx ho
  split at h <;> try exact h.elim
  rename_i n seen mid hit
  split at h <;> try exact h.elim
  rename_i es hes
  obtain ⟨rfl, hend, hgo⟩ := h
  cases hrx with
  | pm _ _ bk hb =>
  obtain ⟨mb, hmb, i2, i2', i3⟩ := itOf hs hit hb
  obtain ⟨ms, q1, q2, q3, q4, q5⟩ := mapEnt hs hes hmb
  have hiid : iid < σ.length := (List.getElem?_eq_some_iff.1 hit).1
  -- what is there to choose from
  have hborn : ∀ m ∈ ms, m.born < es.length := fun m hm => by
    obtain ⟨j, hj⟩ := List.mem_iff_getElem?.1 hm
    rw [q3 j m hj, ← q2.1]
    exact (List.getElem?_eq_some_iff.1 hj).1
  let left := ms.toArray.filter fun e => !seen.toArray.contains e.born
  have hold : left.filter (fun e => decide (e.born < es.length)) = left := by
    rw [Array.filter_eq_self]
    intro e he'
    simp only [left, Array.mem_filter, List.mem_toArray] at he'
    simpa using hborn e he'.1
  have hnew : left.filter (fun e => decide (e.born ≥ es.length)) = #[] := by
    rw [Array.filter_eq_empty_iff]
    intro e he'
    simp only [left, Array.mem_filter, List.mem_toArray] at he'
    have := hborn e he'.1
    simp
    omega
  have hgone : (!seen.toArray.isEmpty && !ms.toArray.isEmpty && ms.toArray.all fun e => decide (e.born ≥ es.length)) = false := by
    cases ms with
    | nil => simp
    | cons m ms =>
      have := hborn m (by simp)
      simp
      intro _ h1
      omega
  have fin : ∀ (m : Nat), Sim g σ { w with drawn := m } := fun m => hs.world (fun _ _ => rfl)
  have finx : ∀ (m : Nat), Ext g0 w0 g { w with drawn := m } := fun m => hx.world (σ := σ) (fun _ _ => rfl) rfl rfl rfl (Nat.le_refl _)
  generalize hca : (if left.isEmpty then #[none] else #[]) ++ left.map some = ca
  have hpos : 0 < ca.size := by
    rw [← hca]
    by_cases hl : left.isEmpty
    · rw [if_pos hl]; simp; omega
    · rw [if_neg hl]
      have : left.size ≠ 0 := fun e => hl (by simpa [Array.isEmpty] using e)
      simp
      omega
  have hch : ∃ i k c, (choose (.mapNext ca.size)).run P w = .ok i { w with drawn := k } ∧ ca[i]? = some c := by
    by_cases hf : ca.size ≤ 1
    · refine ⟨0, w.drawn, ca[0], ?_, Array.getElem?_eq_getElem hpos⟩
      simp [run_choose, Question.forced, hf]
    · have hlt : (Question.mapNext ca.size).cut (w.tape w.drawn (.mapNext ca.size)) < ca.size := Nat.mod_lt _ hpos
      refine ⟨_, w.drawn + 1, ca[(Question.mapNext ca.size).cut (w.tape w.drawn (.mapNext ca.size))], ?_, Array.getElem?_eq_getElem hlt⟩
      simp [run_choose, Question.forced, hf]
  obtain ⟨i, k, c, hc1, hc2⟩ := hch
  have hrun0 : ∀ r, (match ca[i]? with
      | some (some e) => (do setObj bk (.mapIter (some mb) es.length (seen.toArray.push e.born) es.length); pure (.tuple #[.bool true, e.key, e.val]) : Sem Value)
      | some none => pure (.tuple #[.bool false])
      | none => stuck "Next: no such candidate").run P { w with drawn := k } = r → (Instr.next (.pointer (some ⟨bk, 0, none⟩)) false ty).run P w = r := fun r hr => by
    rw [← hr]
    simp only [Instr.next, Sem.run_bind, getObj, Sem.run, i2, q1, Result.andThen_ok, Sem.run_pure, hgone, Bool.false_eq_true, if_false]
    rw [show (ms.toArray.filter fun e => !seen.toArray.contains e.born) = left from rfl, hold, hnew, Array.append_empty, hca, hc1]
    rfl
  rw [hc2] at hrun0
  cases c with
  | none =>
    have hle : left.isEmpty = true := by
      by_cases hl : left.isEmpty
      · exact hl
      · rw [if_neg hl] at hca
        rw [← hca] at hc2
        simp at hc2
    refine stp_value (w' := { w with drawn := k }) (v := .tuple #[.bool false]) (by rw [ho]; simp only [Sem.run_bind, hrun0 _ rfl, Sem.run_pure, Result.andThen_ok]) ?_
    refine hn _ _ _ _ (hend fun j hj => ?_) ⟨by rw [put_defers]; exact hd, g, finx k, fin k, he.put' o.dst (tup1 false) (fun i _ => pl_tup1 false g i _) a rfl⟩
    have hjl : j < ms.length := by rw [q2.1]; exact hj
    have hmj : ms[j]? = some ms[j] := List.getElem?_eq_getElem hjl
    by_cases hin : j ∈ seen
    · exact hin
    · have : ms[j] ∈ left := by
        simp only [left, Array.mem_filter, List.mem_toArray]
        refine ⟨List.getElem_mem hjl, ?_⟩
        rw [q3 j _ hmj]
        simpa using hin
      rw [Array.isEmpty_iff] at hle
      rw [hle] at this
      simp at this
  | some e =>
    have hel : e ∈ left := by
      rw [← hca] at hc2
      have := Array.mem_of_getElem? hc2
      by_cases hl : left.isEmpty
      · rw [if_pos hl] at this
        rw [Array.isEmpty_iff] at hl
        rw [hl] at this
        simp at this
      · rw [if_neg hl] at this
        simpa using this
    simp only [left, Array.mem_filter, List.mem_toArray] at hel
    obtain ⟨j, hj⟩ := List.mem_iff_getElem?.1 hel.1
    have hbj := q3 j e hj
    have hjl : j < es.length := by rw [← q2.1]; exact (List.getElem?_eq_some_iff.1 hj).1
    have hej : es[j]? = some es[j] := List.getElem?_eq_getElem hjl
    have hnin : j ∉ seen := by
      have := hel.2
      rw [hbj] at this
      simpa using this
    have hR := q2.2 j _ e hej hj
    have hlt : bk < w.heap.size := heap_lt i2
    have hw2 : ({ w with drawn := k } : World).heap[bk]? = some (.mapIter (some mb) es.length seen.toArray es.length) := i2
    refine stp_value (w' := ({ w with drawn := k } : World).putObj bk (.mapIter (some mb) es.length (seen.toArray.push e.born) es.length)) (v := .tuple #[.bool true, e.key, e.val]) ?_ ?_
    · rw [ho]
      simp only [Sem.run_bind, hrun0 _ rfl, Sem.run_pure, Result.andThen_ok, setObj, Sem.run, i2]
      rfl
    · refine hn _ _ _ _ (hgo j _ hej hnin) ⟨by rw [put_defers]; exact hd, g, (finx k).trans (Ext.put_any hb _), (fin k).put_any hiid hb i2' i3 ?_, he.put' o.dst (tup3 hR.1 hR.2 true) (fun i _ => pl_tup3 _ _ true g i _) a rfl⟩
      refine ⟨bk, some mb, hb, ?_, rfl, i2', i3, fun j' c v hc hv => ?_⟩
      · rw [World.putObj_heap_same (by exact hlt), hbj]
        simp
      · match j' with
        | 0 =>
          simp at hc hv
          subst hc
          subst hv
          exact .mp _ _ hmb
        | j' + 1 => simp at hc

theorem stp_entry {o : Oper} {x : Operand} (hx : Ext g0 w0 g w) (hs : Sim g σ w) (he : EnvOK g env a.tmps) (hG : GOK G g) (hd : a.defers = D) (hn : NextOK g0 w0 D K next)
    (h : aentry σ (ev G env x) (Kv K env σ o.dst)) (ho : execOp a.eval o = (do pure (.value (← Instr.entry (a.eval x))))) : Stp P o a w next QQ := by
  have hrx := R.ev hG he x
  unfold aentry at h
  split at h <;> try exact h.elim
  rename_i iid hex
  rw [hex] at hrx
  generalize a.eval x = vx at hrx ho
  split at h <;> try exact h.elim
  rename_i n seen mid hit
  split at h <;> try exact h.elim
  rename_i es hes
  obtain ⟨rfl, e, hj, hk⟩ := h
  cases hrx with
  | pm _ _ bk hb =>
  obtain ⟨mb, hmb, i1, i2, i3⟩ := itOf hs hit hb
  obtain ⟨ms, q1, q2, q3, q4, q5⟩ := mapEnt hs hes hmb
  simp only [Option.bind_eq_some_iff] at hj
  obtain ⟨j, hj1, hj2⟩ := hj
  have hjl : j < ms.length := by rw [q2.1]; exact (List.getElem?_eq_some_iff.1 hj2).1
  have hmj : ms[j]? = some ms[j] := List.getElem?_eq_getElem hjl
  have hR := q2.2 j _ _ hj2 hmj
  have hback : seen.toArray.back? = some j := by simpa using hj1
  have hfind : ms.toArray.find? (fun e => e.born == j) = some ms[j] := by
    rw [List.find?_toArray, List.find?_eq_some_iff_getElem]
    refine ⟨by simp [q3 j _ hmj], j, hjl, rfl, fun i hi => ?_⟩
    have := q3 i _ (List.getElem?_eq_getElem (show i < ms.length by omega))
    simp [this]
    omega
  refine stp_gives (s := Instr.entry (.pointer (some ⟨bk, 0, none⟩))) hx hs he hd hn ⟨_, .tuple #[ms[j].key, ms[j].val], ?_, tup22 hR.1 hR.2, pl_tup22 _ _, hk⟩ ho
  simp only [Instr.entry, Sem.run_bind, getObj, Sem.run, i1, q1, Result.andThen_ok, hback, hfind, bne_self_eq_false, Bool.false_eq_true, if_false, Sem.run_pure]

theorem acap_sound {t ty : TypeId} {x : AV} {vx : Value} {K : AV → Prop} (hx : R g.S g.ρ x vx) (h : acap P t x K) : Gives P g w K (Builtin.cap_ #[t] ty #[vx]) := by
  unfold acap at h
  split at h <;> try exact h.elim
  rename_i e hu
  cases hx with
  | sl0 =>
    refine ⟨_, .int .i64 0, ?_, .i .i64 0 (by unfold inR; simp [IntKind.min, IntKind.max, IntKind.bits, IntKind.signed]), pl_mk (by simp) (by simp), h⟩
    simp [Builtin.cap_, run_und hu, goInt]
  | sl _ hne => exact absurd rfl hne

/-- A new object, where a choice was drawn. -/
theorem stp_obj_drawn {o : Oper} {n : Nat} (hx : Ext g0 w0 g w) (hs : Sim g σ w) (he : EnvOK g env a.tmps) (hd : a.defers = D) (hn : NextOK g0 w0 D K next) (cs : List AV) (vs : Array Value) (E : TypeId) (hl : vs.size = cs.length)
    (hr : ∀ (j : Nat) (c : AV) (v : Value), cs[j]? = some c → vs[j]? = some v → R g.S g.ρ c v ∧ OwnOK g (.o σ.length j) c v)
    {c : AV} {v : Value} (hc : R g.S (g.ρ ++ [w.heap.size]) c v) (hp : Pl c) (hk : K (aput env o.dst c) (σ ++ [.cells cs])) (ho : (execOp a.eval o).run P w = .ok (.value v) (({ w with drawn := n } : World).alloc (.cells vs E))) : Stp P o a w next QQ := by
  have hs' : Sim g σ { w with drawn := n } := hs.world (fun _ _ => rfl)
  have hx' : Ext g0 w0 g { w with drawn := n } := hx.world (σ := σ) (fun _ _ => rfl) rfl rfl rfl (Nat.le_refl _)
  have h1 := Ext.alloc_obj hs' (.cells vs E)
  refine stp_value ho (hn _ _ _ _ hk ⟨by rw [put_defers]; exact hd, _, hx'.trans h1, hs'.alloc_obj cs vs E hl (fun j c v hc hv => ⟨(hr j c v hc hv).1.ext h1, (hr j c v hc hv).2⟩), ?_⟩)
  exact (he.ext h1 rfl).put' o.dst hc (fun i _ => hp _ i v) a rfl

theorem appendZ_sound {o : Oper} {ts : Array TypeId} {ty : TypeId} {xs : Array Operand} (hx : Ext g0 w0 g w) (hs : Sim g σ w) (he : EnvOK g env a.tmps) (hG : GOK G g) (hd : a.defers = D) (hn : NextOK g0 w0 D K next)
    (ho : execOp a.eval o = (do pure (.value (← Builtin.append_ ts ty (xs.map a.eval))))) (h : aappendZ P G env σ ts xs o.dst K) : Stp P o a w next QQ := by
  unfold aappendZ at h
  split at h <;> try exact h.elim
  rename_i t t' s x ht ht' hxs hxx
  split at h <;> try exact h.elim
  rename_i q hu'
  split at h <;> try exact h.elim
  rename_i e hu
  split at h <;> try exact h.elim
  rename_i sz by_ hsz hby
  obtain ⟨hzl, hsz0, h⟩ := h
  have hrs := R.ev hG he s
  have hrx := R.ev hG he x
  have ha0 := ev_args hxs a.eval
  have ha1 := ev_args hxx a.eval
  split at h <;> try exact h.elim
  rename_i k m hes hex
  obtain ⟨⟨hm0, hmb, hm48⟩, hK⟩ := h
  rw [hes] at hrs
  rw [hex] at hrx
  generalize a.eval s = vs at hrs ha0
  generalize a.eval x = vx at hrx ha1
  cases hrx
  have hvs : vs = .slice none 0 0 := by
    cases hrs with
    | sl0 => rfl
    | sl _ hne => exact absurd rfl hne
  subst hvs
  obtain ⟨i, z, hi, hz, hzs⟩ := zero_of (t := e) (cs := (tzero P e).getD []) (by
    unfold tzlen at hzl
    cases e1 : tzero P e with
    | none => rw [e1] at hzl; cases hzl
    | some q => rfl)
  have hzsz : z.cells.size = sz := by
    unfold tzlen at hzl
    cases e1 : tzero P e with
    | none => rw [e1] at hzl; cases hzl
    | some q =>
      rw [e1] at hzl hzs
      simp only [Option.map_some, Option.some.injEq, Option.getD_some] at hzl hzs
      rw [← hzl, hzs]
      simp
  have hbytes : i.bytes = by_ := by
    unfold tbytes at hby
    rw [hi] at hby
    cases hby
    rfl
  have hw1 : IntKind.i64.wrap m = m := by
    simp [IntKind.wrap, IntKind.bits, IntKind.signed]
    omega
  have h1 : ¬ (0 + m.toNat ≤ 0) := by omega
  have h2 : ¬ (((0 + m.toNat : Nat) : Int) > IntKind.i64.max) := by rw [IntKind.max_i64]; omega
  have hmn : (m.toNat : Int) = m := by omega
  have hmb' : 2 * m.toNat * by_ ≤ 281474976710656 := by
    have e : ((2 * m.toNat * by_ : Nat) : Int) = 2 * m * by_ := by rw [Int.natCast_mul, Int.natCast_mul, hmn]; rfl
    omega
  have h3 : ¬ (Builtin.nextslicecap (0 + m.toNat) 0 * by_ > 2 ^ 48) := by
    have := Nat.mul_le_mul_right by_ (nextcap_le (need := 0 + m.toNat) (cap := 0) (by omega))
    simp only [Nat.zero_add] at this ⊢
    omega
  have h4 : ¬ (m < 0) := by omega
  have h5 : ¬ (m * (by_ : Int) > 2 ^ 48) := by
    have : 0 ≤ m * (by_ : Int) := Int.mul_nonneg (by omega) (by omega)
    rw [Int.mul_assoc] at hmb
    omega
  have h6 : ¬ (m.toNat * sz = 0) := by
    intro h0
    rcases Nat.mul_eq_zero.1 h0 with h7 | h7 <;> omega
  let nc := (Question.appendCap (0 + m.toNat) 0 e).cut (w.tape w.drawn (.appendCap (0 + m.toNat) 0 e))
  have hnc : m.toNat ≤ nc := by simp [nc, Question.cut]
  have hrun : (Builtin.append_ ts ty (xs.map a.eval)).run P w = .ok (.slice (some ⟨w.heap.size, 0, none⟩) (0 + m.toNat) nc) (({ w with drawn := w.drawn + 1 } : World).alloc (.cells (#[] ++ Builtin.zeroCells z.cells m.toNat ++ Builtin.zeroCells z.cells (nc - (0 + m.toNat))) e)) := by
    simp only [Builtin.append_, ht, ht', ha0, ha1, Sem.run_bind, run_und hu, Result.andThen_ok, run_size hsz, run_und hu', Sem.run_pure, if_true, asInt, asIntOf, hw1, if_neg h4, run_ti hi, hbytes, if_neg h5, if_neg h1, h2, true_or, and_true, if_false, if_neg h3, run_choose, Question.forced, Bool.false_eq_true, run_askRoom, Builtin.firstCells, Bool.not_true, if_neg h6, run_zero hi hz, newRow, run_newObj]
    rfl
  refine stp_obj_drawn (n := w.drawn + 1) hx hs he hd hn (List.replicate (nc * sz) .u) (#[] ++ Builtin.zeroCells z.cells m.toNat ++ Builtin.zeroCells z.cells (nc - m.toNat)) e ?_ ?_ (.sm _ 0 m.toNat nc sz _ (ρ_new hs) hnc (by omega)) (pl_mk (by simp) (by simp)) (hK nc hnc) (by rw [ho]; simp only [Sem.run_bind, hrun, Result.andThen_ok, Sem.run_pure, Nat.zero_add])
  · simp only [Builtin.zeroCells, hzsz, Array.size_append, Array.size_map, Array.size_range, List.length_replicate, Array.size_empty, Nat.zero_add]
    rw [← Nat.add_mul]
    congr 1
    omega
  · intro j c v hc hv
    rw [List.getElem?_replicate] at hc
    split at hc <;> cases hc
    exact ⟨.u v, by simp [OwnOK]⟩

end
end Go.Proofs.Ytoofpdmdgofdcaa.E
