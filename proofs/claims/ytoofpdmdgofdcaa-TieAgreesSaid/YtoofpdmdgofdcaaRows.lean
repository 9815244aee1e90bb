/-
  No cell of these rows narrows 'for every input' (looked for: loops, veiled, ifaces, maps, wideKeys, modest, calm, conditions, laid).
  DERIVED. THE GIVEN ROWS OF THIS SEAT. 5 by the template 'for every input the law returns true; each argument reads behind the call as it read before'; 0 by the template 'total and deterministic' (their statements: YtoofpdmdgofdcaaTotals.lean).
  GIVEN WITH THE SEED: the statements are not yours to turn. If you find one false, say at which input.
  Laid BY PROGRAM, IN A SANDBOX (cutbox-rows.mjs): the forced cells as the released guide's own fill.sh prints them over the translation d58e70259e4de193… (all of the seat's roots in one cut). By AI agents, Wed Nov 11 2026. No macro, syntax, notation, axiom, sorry.
-/
import Derived.Test.YtoofpdmdgofdcaaChecked
import GoSem.Claim
import GoSem.ClaimJoined
import GoSem.ClaimMapViews
import Derived.JoinedTies
import Derived.KernelRfl
namespace Go.Proofs.Ytoofpdmdgofdcaa
/- THE CELL 'sum', in the pinned program and in every row, IS THE sha256 OF THE DUMP (.gsa) THAT YtoofpdmdgofdcaaProg.lean LOADS. Nothing in Lean hashes anything: it is a label: what it is worth is what the hold of that sum in a sandbox is worth. -/
noncomputable def Try.pinned : Pinned := { name := "ytoofpdmdgofdcaa", sum := "d58e70259e4de19360ab0e48c9fbe9fcd415793e326c4b6e1a7f8904c93a5bb1", checked := Try.checked }
namespace Rows
def none {H : Type} : Left H := { results := [], args := [] }

/-- 'mudlarklaw18.ChartSpans': WHATEVER THE INPUT: true; the input reads as it did. -/
def chartSpansSpec : ChangeSpec := { name := "chartSpans", fn := fun _ => fun
  | [d1, d2] => { results := [.lit (.bool true)], args := [d1, d2] }
  | _ => none }
def chartSpansRow : OpenClaim := { program := "ytoofpdmdgofdcaa", sum := "d58e70259e4de19360ab0e48c9fbe9fcd415793e326c4b6e1a7f8904c93a5bb1", func := "mudlark/mudlarklaw18.ChartSpans", spec := "chartSpans", unfollowed := true, recurses := true, apart := false }
def ChartSpansSaid : Prop := chartSpansRow.holds Try.pinned (OpenSpec.ofChange chartSpansSpec)

/-- ITS FALSE NEIGHBOUR: 'it returns false'. Refute it at one input. -/
def chartSpansWrong : ChangeSpec := { name := "chartSpans", fn := fun _ => fun
  | [d1, d2] => { results := [.lit (.bool false)], args := [d1, d2] }
  | _ => none }
def ChartSpansWrongFalsely : Prop := chartSpansRow.holds Try.pinned (OpenSpec.ofChange chartSpansWrong)

/-- 'mudlarklaw18.ChartOdd': WHATEVER THE INPUT: true; the input reads as it did. -/
def chartOddSpec : ChangeSpec := { name := "chartOdd", fn := fun _ => fun
  | [d1, d2] => { results := [.lit (.bool true)], args := [d1, d2] }
  | _ => none }
def chartOddRow : OpenClaim := { program := "ytoofpdmdgofdcaa", sum := "d58e70259e4de19360ab0e48c9fbe9fcd415793e326c4b6e1a7f8904c93a5bb1", func := "mudlark/mudlarklaw18.ChartOdd", spec := "chartOdd", unfollowed := true, recurses := true, apart := false }
def ChartOddSaid : Prop := chartOddRow.holds Try.pinned (OpenSpec.ofChange chartOddSpec)

/-- ITS FALSE NEIGHBOUR: 'it returns false'. Refute it at one input. -/
def chartOddWrong : ChangeSpec := { name := "chartOdd", fn := fun _ => fun
  | [d1, d2] => { results := [.lit (.bool false)], args := [d1, d2] }
  | _ => none }
def ChartOddWrongFalsely : Prop := chartOddRow.holds Try.pinned (OpenSpec.ofChange chartOddWrong)

/-- 'mudlarklaw18.ChartBack': WHATEVER THE INPUT: true; the input reads as it did. -/
def chartBackSpec : ChangeSpec := { name := "chartBack", fn := fun _ => fun
  | [d] => { results := [.lit (.bool true)], args := [d] }
  | _ => none }
def chartBackRow : OpenClaim := { program := "ytoofpdmdgofdcaa", sum := "d58e70259e4de19360ab0e48c9fbe9fcd415793e326c4b6e1a7f8904c93a5bb1", func := "mudlark/mudlarklaw18.ChartBack", spec := "chartBack", unfollowed := true, recurses := true, apart := false }
def ChartBackSaid : Prop := chartBackRow.holds Try.pinned (OpenSpec.ofChange chartBackSpec)

/-- ITS FALSE NEIGHBOUR: 'it returns false'. Refute it at one input. -/
def chartBackWrong : ChangeSpec := { name := "chartBack", fn := fun _ => fun
  | [d] => { results := [.lit (.bool false)], args := [d] }
  | _ => none }
def ChartBackWrongFalsely : Prop := chartBackRow.holds Try.pinned (OpenSpec.ofChange chartBackWrong)

/-- 'mudlarklaw16.TieNames': WHATEVER THE INPUT: true; the input reads as it did. -/
def tieNamesSpec : ChangeSpec := { name := "tieNames", fn := fun _ => fun
  | [d1, d2] => { results := [.lit (.bool true)], args := [d1, d2] }
  | _ => none }
def tieNamesRow : OpenClaim := { program := "ytoofpdmdgofdcaa", sum := "d58e70259e4de19360ab0e48c9fbe9fcd415793e326c4b6e1a7f8904c93a5bb1", func := "mudlark/mudlarklaw16.TieNames", spec := "tieNames", unfollowed := true, recurses := true, apart := false }
def TieNamesSaid : Prop := tieNamesRow.holds Try.pinned (OpenSpec.ofChange tieNamesSpec)

/-- ITS FALSE NEIGHBOUR: 'it returns false'. Refute it at one input. -/
def tieNamesWrong : ChangeSpec := { name := "tieNames", fn := fun _ => fun
  | [d1, d2] => { results := [.lit (.bool false)], args := [d1, d2] }
  | _ => none }
def TieNamesWrongFalsely : Prop := tieNamesRow.holds Try.pinned (OpenSpec.ofChange tieNamesWrong)

/-- 'mudlarklaw16.TieAgrees': WHATEVER THE INPUT: true; the input reads as it did. -/
def tieAgreesSpec : ChangeSpec := { name := "tieAgrees", fn := fun _ => fun
  | [d1, d2, d3, d4, d5] => { results := [.lit (.bool true)], args := [d1, d2, d3, d4, d5] }
  | _ => none }
def tieAgreesRow : OpenClaim := { program := "ytoofpdmdgofdcaa", sum := "d58e70259e4de19360ab0e48c9fbe9fcd415793e326c4b6e1a7f8904c93a5bb1", func := "mudlark/mudlarklaw16.TieAgrees", spec := "tieAgrees", unfollowed := true, recurses := true, apart := false }
def TieAgreesSaid : Prop := tieAgreesRow.holds Try.pinned (OpenSpec.ofChange tieAgreesSpec)

/-- ITS FALSE NEIGHBOUR: 'it returns false'. Refute it at one input. -/
def tieAgreesWrong : ChangeSpec := { name := "tieAgrees", fn := fun _ => fun
  | [d1, d2, d3, d4, d5] => { results := [.lit (.bool false)], args := [d1, d2, d3, d4, d5] }
  | _ => none }
def TieAgreesWrongFalsely : Prop := tieAgreesRow.holds Try.pinned (OpenSpec.ofChange tieAgreesWrong)

/- THE SECOND FORM. 'bulk': how many values and letters a reading holds, each counted each time it is reached (what is shared counts as often as it is met; a slice's spare places count too). A statement '..UptoSaid' is the law's where the arguments, and the package variables that the reading takes, are together of bulk at most 1048576: NARROWER than '..Said'. Prove '..Said' where nothing that the law and all that it calls make is longer than what came in: it says more and counts as full. Else prove '..UptoSaid'. A law counts once. -/
mutual
def uptoBulk {H : Type} : DataW H → Nat
  | .lit (.string bytes) => bytes.length + 1
  | .lit _ => 1
  | .nil => 1
  | .ptr d => uptoBulk d + 1
  | .slice elems spare => uptoBulkAll elems + uptoBulkAll spare + 1
  | .agg parts => uptoBulkAll parts + 1
  | .iface _ d => uptoBulk d + 1
  | .map entries => uptoBulkEntries entries + 1
  | .held _ => 1
def uptoBulkAll {H : Type} : List (DataW H) → Nat
  | [] => 0
  | d :: r => uptoBulk d + uptoBulkAll r
def uptoBulkEntries {H : Type} : List (Lit × DataW H) → Nat
  | [] => 0
  | x :: r => uptoBulkEntry x + uptoBulkEntries r
def uptoBulkEntry {H : Type} : Lit × DataW H → Nat
  | (.string bytes, d) => bytes.length + uptoBulk d + 1
  | (_, d) => uptoBulk d + 1
 end
def uptoSmall : (H : Type) → List (DataW H) → Bool := fun _ ds => decide (uptoBulkAll ds ≤ 1048576)
def OpenSpec.upto (s : _root_.Go.ChangeSpec) : _root_.Go.OpenSpec := { _root_.Go.OpenSpec.ofChange s with cond := some uptoSmall }

/-- 'mudlarklaw18.ChartSpans', WHERE WHAT IT READS IS OF BULK AT MOST 1048576: true; the input reads as it did. -/
def chartSpansUptoRow : OpenClaim := { program := "ytoofpdmdgofdcaa", sum := "d58e70259e4de19360ab0e48c9fbe9fcd415793e326c4b6e1a7f8904c93a5bb1", func := "mudlark/mudlarklaw18.ChartSpans", spec := "chartSpans", unfollowed := true, recurses := true, apart := false, narrowed := true }
def ChartSpansUptoSaid : Prop := chartSpansUptoRow.holds Try.pinned (OpenSpec.upto chartSpansSpec)

/-- 'mudlarklaw18.ChartOdd', WHERE WHAT IT READS IS OF BULK AT MOST 1048576: true; the input reads as it did. -/
def chartOddUptoRow : OpenClaim := { program := "ytoofpdmdgofdcaa", sum := "d58e70259e4de19360ab0e48c9fbe9fcd415793e326c4b6e1a7f8904c93a5bb1", func := "mudlark/mudlarklaw18.ChartOdd", spec := "chartOdd", unfollowed := true, recurses := true, apart := false, narrowed := true }
def ChartOddUptoSaid : Prop := chartOddUptoRow.holds Try.pinned (OpenSpec.upto chartOddSpec)

/-- 'mudlarklaw18.ChartBack', WHERE WHAT IT READS IS OF BULK AT MOST 1048576: true; the input reads as it did. -/
def chartBackUptoRow : OpenClaim := { program := "ytoofpdmdgofdcaa", sum := "d58e70259e4de19360ab0e48c9fbe9fcd415793e326c4b6e1a7f8904c93a5bb1", func := "mudlark/mudlarklaw18.ChartBack", spec := "chartBack", unfollowed := true, recurses := true, apart := false, narrowed := true }
def ChartBackUptoSaid : Prop := chartBackUptoRow.holds Try.pinned (OpenSpec.upto chartBackSpec)

/-- 'mudlarklaw16.TieNames', WHERE WHAT IT READS IS OF BULK AT MOST 1048576: true; the input reads as it did. -/
def tieNamesUptoRow : OpenClaim := { program := "ytoofpdmdgofdcaa", sum := "d58e70259e4de19360ab0e48c9fbe9fcd415793e326c4b6e1a7f8904c93a5bb1", func := "mudlark/mudlarklaw16.TieNames", spec := "tieNames", unfollowed := true, recurses := true, apart := false, narrowed := true }
def TieNamesUptoSaid : Prop := tieNamesUptoRow.holds Try.pinned (OpenSpec.upto tieNamesSpec)

/-- 'mudlarklaw16.TieAgrees', WHERE WHAT IT READS IS OF BULK AT MOST 1048576: true; the input reads as it did. -/
def tieAgreesUptoRow : OpenClaim := { program := "ytoofpdmdgofdcaa", sum := "d58e70259e4de19360ab0e48c9fbe9fcd415793e326c4b6e1a7f8904c93a5bb1", func := "mudlark/mudlarklaw16.TieAgrees", spec := "tieAgrees", unfollowed := true, recurses := true, apart := false, narrowed := true }
def TieAgreesUptoSaid : Prop := tieAgreesUptoRow.holds Try.pinned (OpenSpec.upto tieAgreesSpec)

end Rows
end Go.Proofs.Ytoofpdmdgofdcaa
