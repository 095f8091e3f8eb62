/-
  No cell of these rows narrows 'for every input' (looked for: loops, veiled, ifaces, maps, wideKeys, modest, calm, conditions, laid).
  DERIVED. THE GIVEN ROWS OF THIS SEAT. 11 by the template 'for every input the law returns true; each argument reads behind the call as it read before'; 0 by the template 'total and deterministic' (their statements: YtkdfkpalgejkkaaTotals.lean).
  GIVEN WITH THE SEED: the statements are not yours to turn. If you find one false, say at which input.
  Laid BY PROGRAM, IN A SANDBOX (cutbox-rows.mjs): the forced cells as the released guide's own fill.sh prints them over the translation 29876c4028ec3996… (all of the seat's roots in one cut). By AI agents, Wed Nov 11 2026. No macro, syntax, notation, axiom, sorry.
-/
import Derived.Test.YtkdfkpalgejkkaaChecked
import GoSem.Claim
import GoSem.ClaimJoined
import GoSem.ClaimMapViews
import Derived.JoinedTies
import Derived.KernelRfl
namespace Go.Proofs.Ytkdfkpalgejkkaa
/- THE CELL 'sum', in the pinned program and in every row, IS THE sha256 OF THE DUMP (.gsa) THAT YtkdfkpalgejkkaaProg.lean LOADS. Nothing in Lean hashes anything: it is a label: what it is worth is what the hold of that sum in a sandbox is worth. -/
noncomputable def Try.pinned : Pinned := { name := "ytkdfkpalgejkkaa", sum := "29876c4028ec3996c8275cd25ff3279ddc5297409067766b19c587287f153bdb", checked := Try.checked }
namespace Rows
def none {H : Type} : Left H := { results := [], args := [] }

/-- 'datumlaw05.SpanTimes': WHATEVER THE INPUT: true; the input reads as it did. -/
def spanTimesSpec : ChangeSpec := { name := "spanTimes", fn := fun _ => fun
  | [d1, d2] => { results := [.lit (.bool true)], args := [d1, d2] }
  | _ => none }
def spanTimesRow : OpenClaim := { program := "ytkdfkpalgejkkaa", sum := "29876c4028ec3996c8275cd25ff3279ddc5297409067766b19c587287f153bdb", func := "datum/datumlaw05.SpanTimes", spec := "spanTimes", inPlace := ["math/bits.Sub64", "math/bits.Add64"], unfollowed := true, recurses := true, named := ["math/bits.divideError", "math/bits.overflowError"], apart := false }
def SpanTimesSaid : Prop := spanTimesRow.holds Try.pinned (OpenSpec.ofChange spanTimesSpec)

/-- ITS FALSE NEIGHBOUR: 'it returns false'. Refute it at one input. -/
def spanTimesWrong : ChangeSpec := { name := "spanTimes", fn := fun _ => fun
  | [d1, d2] => { results := [.lit (.bool false)], args := [d1, d2] }
  | _ => none }
def SpanTimesWrongFalsely : Prop := spanTimesRow.holds Try.pinned (OpenSpec.ofChange spanTimesWrong)

/-- 'datumlaw17.LimitDraws': WHATEVER THE INPUT: true; the input reads as it did. -/
def limitDrawsSpec : ChangeSpec := { name := "limitDraws", fn := fun _ => fun
  | [d1, d2] => { results := [.lit (.bool true)], args := [d1, d2] }
  | _ => none }
def limitDrawsRow : OpenClaim := { program := "ytkdfkpalgejkkaa", sum := "29876c4028ec3996c8275cd25ff3279ddc5297409067766b19c587287f153bdb", func := "datum/datumlaw17.LimitDraws", spec := "limitDraws", inPlace := ["math/bits.Add64", "math/bits.Sub64"], unfollowed := true, recurses := true, named := ["math/bits.divideError", "math/bits.overflowError"], apart := false }
def LimitDrawsSaid : Prop := limitDrawsRow.holds Try.pinned (OpenSpec.ofChange limitDrawsSpec)

/-- ITS FALSE NEIGHBOUR: 'it returns false'. Refute it at one input. -/
def limitDrawsWrong : ChangeSpec := { name := "limitDraws", fn := fun _ => fun
  | [d1, d2] => { results := [.lit (.bool false)], args := [d1, d2] }
  | _ => none }
def LimitDrawsWrongFalsely : Prop := limitDrawsRow.holds Try.pinned (OpenSpec.ofChange limitDrawsWrong)

/-- 'datumlaw17.LimitSure': WHATEVER THE INPUT: true; the input reads as it did. -/
def limitSureSpec : ChangeSpec := { name := "limitSure", fn := fun _ => fun
  | [d1, d2, d3, d4, d5] => { results := [.lit (.bool true)], args := [d1, d2, d3, d4, d5] }
  | _ => none }
def limitSureRow : OpenClaim := { program := "ytkdfkpalgejkkaa", sum := "29876c4028ec3996c8275cd25ff3279ddc5297409067766b19c587287f153bdb", func := "datum/datumlaw17.LimitSure", spec := "limitSure", inPlace := ["math/bits.Add64", "math/bits.Sub64"], unfollowed := true, recurses := true, named := ["math/bits.divideError", "math/bits.overflowError"], apart := false }
def LimitSureSaid : Prop := limitSureRow.holds Try.pinned (OpenSpec.ofChange limitSureSpec)

/-- ITS FALSE NEIGHBOUR: 'it returns false'. Refute it at one input. -/
def limitSureWrong : ChangeSpec := { name := "limitSure", fn := fun _ => fun
  | [d1, d2, d3, d4, d5] => { results := [.lit (.bool false)], args := [d1, d2, d3, d4, d5] }
  | _ => none }
def LimitSureWrongFalsely : Prop := limitSureRow.holds Try.pinned (OpenSpec.ofChange limitSureWrong)

/-- 'datumlaw17.LimitNarrow': WHATEVER THE INPUT: true; the input reads as it did. -/
def limitNarrowSpec : ChangeSpec := { name := "limitNarrow", fn := fun _ => fun
  | [d1, d2, d3, d4, d5] => { results := [.lit (.bool true)], args := [d1, d2, d3, d4, d5] }
  | _ => none }
def limitNarrowRow : OpenClaim := { program := "ytkdfkpalgejkkaa", sum := "29876c4028ec3996c8275cd25ff3279ddc5297409067766b19c587287f153bdb", func := "datum/datumlaw17.LimitNarrow", spec := "limitNarrow", inPlace := ["math/bits.Add64", "math/bits.Sub64"], unfollowed := true, recurses := true, named := ["math/bits.divideError", "math/bits.overflowError"], apart := false }
def LimitNarrowSaid : Prop := limitNarrowRow.holds Try.pinned (OpenSpec.ofChange limitNarrowSpec)

/-- ITS FALSE NEIGHBOUR: 'it returns false'. Refute it at one input. -/
def limitNarrowWrong : ChangeSpec := { name := "limitNarrow", fn := fun _ => fun
  | [d1, d2, d3, d4, d5] => { results := [.lit (.bool false)], args := [d1, d2, d3, d4, d5] }
  | _ => none }
def LimitNarrowWrongFalsely : Prop := limitNarrowRow.holds Try.pinned (OpenSpec.ofChange limitNarrowWrong)

/-- 'datumlaw05.SpanInside': WHATEVER THE INPUT: true; the input reads as it did. -/
def spanInsideSpec : ChangeSpec := { name := "spanInside", fn := fun _ => fun
  | [d1, d2, d3, d4, d5, d6] => { results := [.lit (.bool true)], args := [d1, d2, d3, d4, d5, d6] }
  | _ => none }
def spanInsideRow : OpenClaim := { program := "ytkdfkpalgejkkaa", sum := "29876c4028ec3996c8275cd25ff3279ddc5297409067766b19c587287f153bdb", func := "datum/datumlaw05.SpanInside", spec := "spanInside", inPlace := ["math/bits.Sub64", "math/bits.Add64"], unfollowed := true, recurses := true, named := ["math/bits.divideError", "math/bits.overflowError"], apart := false }
def SpanInsideSaid : Prop := spanInsideRow.holds Try.pinned (OpenSpec.ofChange spanInsideSpec)

/-- ITS FALSE NEIGHBOUR: 'it returns false'. Refute it at one input. -/
def spanInsideWrong : ChangeSpec := { name := "spanInside", fn := fun _ => fun
  | [d1, d2, d3, d4, d5, d6] => { results := [.lit (.bool false)], args := [d1, d2, d3, d4, d5, d6] }
  | _ => none }
def SpanInsideWrongFalsely : Prop := spanInsideRow.holds Try.pinned (OpenSpec.ofChange spanInsideWrong)

/-- 'datumlaw19.EwmaNarrow': WHATEVER THE INPUT: true; the input reads as it did. -/
def ewmaNarrowSpec : ChangeSpec := { name := "ewmaNarrow", fn := fun _ => fun
  | [d1, d2, d3, d4] => { results := [.lit (.bool true)], args := [d1, d2, d3, d4] }
  | _ => none }
def ewmaNarrowRow : OpenClaim := { program := "ytkdfkpalgejkkaa", sum := "29876c4028ec3996c8275cd25ff3279ddc5297409067766b19c587287f153bdb", func := "datum/datumlaw19.EwmaNarrow", spec := "ewmaNarrow", inPlace := ["math/bits.Sub64", "math/bits.Add64"], unfollowed := true, recurses := true, named := ["math/bits.divideError", "math/bits.overflowError"], apart := false }
def EwmaNarrowSaid : Prop := ewmaNarrowRow.holds Try.pinned (OpenSpec.ofChange ewmaNarrowSpec)

/-- ITS FALSE NEIGHBOUR: 'it returns false'. Refute it at one input. -/
def ewmaNarrowWrong : ChangeSpec := { name := "ewmaNarrow", fn := fun _ => fun
  | [d1, d2, d3, d4] => { results := [.lit (.bool false)], args := [d1, d2, d3, d4] }
  | _ => none }
def EwmaNarrowWrongFalsely : Prop := ewmaNarrowRow.holds Try.pinned (OpenSpec.ofChange ewmaNarrowWrong)

/-- 'datumlaw17.LimitJudges': WHATEVER THE INPUT: true; the input reads as it did. -/
def limitJudgesSpec : ChangeSpec := { name := "limitJudges", fn := fun _ => fun
  | [d1, d2, d3] => { results := [.lit (.bool true)], args := [d1, d2, d3] }
  | _ => none }
def limitJudgesRow : OpenClaim := { program := "ytkdfkpalgejkkaa", sum := "29876c4028ec3996c8275cd25ff3279ddc5297409067766b19c587287f153bdb", func := "datum/datumlaw17.LimitJudges", spec := "limitJudges", inPlace := ["math/bits.Sub64", "math/bits.Add64"], unfollowed := true, recurses := true, named := ["math/bits.divideError", "math/bits.overflowError"], apart := false }
def LimitJudgesSaid : Prop := limitJudgesRow.holds Try.pinned (OpenSpec.ofChange limitJudgesSpec)

/-- ITS FALSE NEIGHBOUR: 'it returns false'. Refute it at one input. -/
def limitJudgesWrong : ChangeSpec := { name := "limitJudges", fn := fun _ => fun
  | [d1, d2, d3] => { results := [.lit (.bool false)], args := [d1, d2, d3] }
  | _ => none }
def LimitJudgesWrongFalsely : Prop := limitJudgesRow.holds Try.pinned (OpenSpec.ofChange limitJudgesWrong)

/-- 'datumlaw19.EwmaReaches': WHATEVER THE INPUT: true; the input reads as it did. -/
def ewmaReachesSpec : ChangeSpec := { name := "ewmaReaches", fn := fun _ => fun
  | [d] => { results := [.lit (.bool true)], args := [d] }
  | _ => none }
def ewmaReachesRow : OpenClaim := { program := "ytkdfkpalgejkkaa", sum := "29876c4028ec3996c8275cd25ff3279ddc5297409067766b19c587287f153bdb", func := "datum/datumlaw19.EwmaReaches", spec := "ewmaReaches", inPlace := ["math/bits.Add64", "math/bits.Sub64"], unfollowed := true, recurses := true, named := ["math/bits.divideError", "math/bits.overflowError"], apart := false }
def EwmaReachesSaid : Prop := ewmaReachesRow.holds Try.pinned (OpenSpec.ofChange ewmaReachesSpec)

/-- ITS FALSE NEIGHBOUR: 'it returns false'. Refute it at one input. -/
def ewmaReachesWrong : ChangeSpec := { name := "ewmaReaches", fn := fun _ => fun
  | [d] => { results := [.lit (.bool false)], args := [d] }
  | _ => none }
def EwmaReachesWrongFalsely : Prop := ewmaReachesRow.holds Try.pinned (OpenSpec.ofChange ewmaReachesWrong)

/-- 'datumlaw19.EwmaHolds': WHATEVER THE INPUT: true; the input reads as it did. -/
def ewmaHoldsSpec : ChangeSpec := { name := "ewmaHolds", fn := fun _ => fun
  | [d1, d2, d3, d4] => { results := [.lit (.bool true)], args := [d1, d2, d3, d4] }
  | _ => none }
def ewmaHoldsRow : OpenClaim := { program := "ytkdfkpalgejkkaa", sum := "29876c4028ec3996c8275cd25ff3279ddc5297409067766b19c587287f153bdb", func := "datum/datumlaw19.EwmaHolds", spec := "ewmaHolds", inPlace := ["math/bits.Sub64", "math/bits.Add64"], unfollowed := true, recurses := true, named := ["math/bits.divideError", "math/bits.overflowError"], apart := false }
def EwmaHoldsSaid : Prop := ewmaHoldsRow.holds Try.pinned (OpenSpec.ofChange ewmaHoldsSpec)

/-- ITS FALSE NEIGHBOUR: 'it returns false'. Refute it at one input. -/
def ewmaHoldsWrong : ChangeSpec := { name := "ewmaHolds", fn := fun _ => fun
  | [d1, d2, d3, d4] => { results := [.lit (.bool false)], args := [d1, d2, d3, d4] }
  | _ => none }
def EwmaHoldsWrongFalsely : Prop := ewmaHoldsRow.holds Try.pinned (OpenSpec.ofChange ewmaHoldsWrong)

/-- 'datumlaw19.EwmaTurns': WHATEVER THE INPUT: true; the input reads as it did. -/
def ewmaTurnsSpec : ChangeSpec := { name := "ewmaTurns", fn := fun _ => fun
  | [d1, d2, d3, d4] => { results := [.lit (.bool true)], args := [d1, d2, d3, d4] }
  | _ => none }
def ewmaTurnsRow : OpenClaim := { program := "ytkdfkpalgejkkaa", sum := "29876c4028ec3996c8275cd25ff3279ddc5297409067766b19c587287f153bdb", func := "datum/datumlaw19.EwmaTurns", spec := "ewmaTurns", inPlace := ["math/bits.Sub64", "math/bits.Add64"], unfollowed := true, recurses := true, named := ["math/bits.divideError", "math/bits.overflowError"], apart := false }
def EwmaTurnsSaid : Prop := ewmaTurnsRow.holds Try.pinned (OpenSpec.ofChange ewmaTurnsSpec)

/-- ITS FALSE NEIGHBOUR: 'it returns false'. Refute it at one input. -/
def ewmaTurnsWrong : ChangeSpec := { name := "ewmaTurns", fn := fun _ => fun
  | [d1, d2, d3, d4] => { results := [.lit (.bool false)], args := [d1, d2, d3, d4] }
  | _ => none }
def EwmaTurnsWrongFalsely : Prop := ewmaTurnsRow.holds Try.pinned (OpenSpec.ofChange ewmaTurnsWrong)

/-- 'datumlaw17.LimitMasks': WHATEVER THE INPUT: true; the input reads as it did. -/
def limitMasksSpec : ChangeSpec := { name := "limitMasks", fn := fun _ => fun
  | [d1, d2, d3, d4, d5, d6] => { results := [.lit (.bool true)], args := [d1, d2, d3, d4, d5, d6] }
  | _ => none }
def limitMasksRow : OpenClaim := { program := "ytkdfkpalgejkkaa", sum := "29876c4028ec3996c8275cd25ff3279ddc5297409067766b19c587287f153bdb", func := "datum/datumlaw17.LimitMasks", spec := "limitMasks", inPlace := ["math/bits.Sub64", "math/bits.Add64"], unfollowed := true, recurses := true, named := ["math/bits.divideError", "math/bits.overflowError"], apart := false }
def LimitMasksSaid : Prop := limitMasksRow.holds Try.pinned (OpenSpec.ofChange limitMasksSpec)

/-- ITS FALSE NEIGHBOUR: 'it returns false'. Refute it at one input. -/
def limitMasksWrong : ChangeSpec := { name := "limitMasks", fn := fun _ => fun
  | [d1, d2, d3, d4, d5, d6] => { results := [.lit (.bool false)], args := [d1, d2, d3, d4, d5, d6] }
  | _ => none }
def LimitMasksWrongFalsely : Prop := limitMasksRow.holds Try.pinned (OpenSpec.ofChange limitMasksWrong)

/- THE SECOND FORM. 'bulk': how many values and letters a reading holds, each counted each time it is reached (what is shared counts as often as it is met; a slice's spare places count too). A statement '..UptoSaid' is the law's where the arguments, and the package variables that the reading takes, are together of bulk at most 1048576: NARROWER than '..Said'. Prove '..Said' where nothing that the law and all that it calls make is longer than what came in: it says more and counts as full. Else prove '..UptoSaid'. A law counts once. -/
mutual
def uptoBulk {H : Type} : DataW H → Nat
  | .lit (.string bytes) => bytes.length + 1
  | .lit _ => 1
  | .nil => 1
  | .ptr d => uptoBulk d + 1
  | .slice elems spare => uptoBulkAll elems + uptoBulkAll spare + 1
  | .agg parts => uptoBulkAll parts + 1
  | .iface _ d => uptoBulk d + 1
  | .map entries => uptoBulkEntries entries + 1
  | .held _ => 1
def uptoBulkAll {H : Type} : List (DataW H) → Nat
  | [] => 0
  | d :: r => uptoBulk d + uptoBulkAll r
def uptoBulkEntries {H : Type} : List (Lit × DataW H) → Nat
  | [] => 0
  | x :: r => uptoBulkEntry x + uptoBulkEntries r
def uptoBulkEntry {H : Type} : Lit × DataW H → Nat
  | (.string bytes, d) => bytes.length + uptoBulk d + 1
  | (_, d) => uptoBulk d + 1
 end
def uptoSmall : (H : Type) → List (DataW H) → Bool := fun _ ds => decide (uptoBulkAll ds ≤ 1048576)
def OpenSpec.upto (s : _root_.Go.ChangeSpec) : _root_.Go.OpenSpec := { _root_.Go.OpenSpec.ofChange s with cond := some uptoSmall }

/-- 'datumlaw05.SpanTimes', WHERE WHAT IT READS IS OF BULK AT MOST 1048576: true; the input reads as it did. -/
def spanTimesUptoRow : OpenClaim := { program := "ytkdfkpalgejkkaa", sum := "29876c4028ec3996c8275cd25ff3279ddc5297409067766b19c587287f153bdb", func := "datum/datumlaw05.SpanTimes", spec := "spanTimes", inPlace := ["math/bits.Sub64", "math/bits.Add64"], unfollowed := true, recurses := true, named := ["math/bits.divideError", "math/bits.overflowError"], apart := false, narrowed := true }
def SpanTimesUptoSaid : Prop := spanTimesUptoRow.holds Try.pinned (OpenSpec.upto spanTimesSpec)

/-- 'datumlaw17.LimitDraws', WHERE WHAT IT READS IS OF BULK AT MOST 1048576: true; the input reads as it did. -/
def limitDrawsUptoRow : OpenClaim := { program := "ytkdfkpalgejkkaa", sum := "29876c4028ec3996c8275cd25ff3279ddc5297409067766b19c587287f153bdb", func := "datum/datumlaw17.LimitDraws", spec := "limitDraws", inPlace := ["math/bits.Add64", "math/bits.Sub64"], unfollowed := true, recurses := true, named := ["math/bits.divideError", "math/bits.overflowError"], apart := false, narrowed := true }
def LimitDrawsUptoSaid : Prop := limitDrawsUptoRow.holds Try.pinned (OpenSpec.upto limitDrawsSpec)

/-- 'datumlaw17.LimitSure', WHERE WHAT IT READS IS OF BULK AT MOST 1048576: true; the input reads as it did. -/
def limitSureUptoRow : OpenClaim := { program := "ytkdfkpalgejkkaa", sum := "29876c4028ec3996c8275cd25ff3279ddc5297409067766b19c587287f153bdb", func := "datum/datumlaw17.LimitSure", spec := "limitSure", inPlace := ["math/bits.Add64", "math/bits.Sub64"], unfollowed := true, recurses := true, named := ["math/bits.divideError", "math/bits.overflowError"], apart := false, narrowed := true }
def LimitSureUptoSaid : Prop := limitSureUptoRow.holds Try.pinned (OpenSpec.upto limitSureSpec)

/-- 'datumlaw17.LimitNarrow', WHERE WHAT IT READS IS OF BULK AT MOST 1048576: true; the input reads as it did. -/
def limitNarrowUptoRow : OpenClaim := { program := "ytkdfkpalgejkkaa", sum := "29876c4028ec3996c8275cd25ff3279ddc5297409067766b19c587287f153bdb", func := "datum/datumlaw17.LimitNarrow", spec := "limitNarrow", inPlace := ["math/bits.Add64", "math/bits.Sub64"], unfollowed := true, recurses := true, named := ["math/bits.divideError", "math/bits.overflowError"], apart := false, narrowed := true }
def LimitNarrowUptoSaid : Prop := limitNarrowUptoRow.holds Try.pinned (OpenSpec.upto limitNarrowSpec)

/-- 'datumlaw05.SpanInside', WHERE WHAT IT READS IS OF BULK AT MOST 1048576: true; the input reads as it did. -/
def spanInsideUptoRow : OpenClaim := { program := "ytkdfkpalgejkkaa", sum := "29876c4028ec3996c8275cd25ff3279ddc5297409067766b19c587287f153bdb", func := "datum/datumlaw05.SpanInside", spec := "spanInside", inPlace := ["math/bits.Sub64", "math/bits.Add64"], unfollowed := true, recurses := true, named := ["math/bits.divideError", "math/bits.overflowError"], apart := false, narrowed := true }
def SpanInsideUptoSaid : Prop := spanInsideUptoRow.holds Try.pinned (OpenSpec.upto spanInsideSpec)

/-- 'datumlaw19.EwmaNarrow', WHERE WHAT IT READS IS OF BULK AT MOST 1048576: true; the input reads as it did. -/
def ewmaNarrowUptoRow : OpenClaim := { program := "ytkdfkpalgejkkaa", sum := "29876c4028ec3996c8275cd25ff3279ddc5297409067766b19c587287f153bdb", func := "datum/datumlaw19.EwmaNarrow", spec := "ewmaNarrow", inPlace := ["math/bits.Sub64", "math/bits.Add64"], unfollowed := true, recurses := true, named := ["math/bits.divideError", "math/bits.overflowError"], apart := false, narrowed := true }
def EwmaNarrowUptoSaid : Prop := ewmaNarrowUptoRow.holds Try.pinned (OpenSpec.upto ewmaNarrowSpec)

/-- 'datumlaw17.LimitJudges', WHERE WHAT IT READS IS OF BULK AT MOST 1048576: true; the input reads as it did. -/
def limitJudgesUptoRow : OpenClaim := { program := "ytkdfkpalgejkkaa", sum := "29876c4028ec3996c8275cd25ff3279ddc5297409067766b19c587287f153bdb", func := "datum/datumlaw17.LimitJudges", spec := "limitJudges", inPlace := ["math/bits.Sub64", "math/bits.Add64"], unfollowed := true, recurses := true, named := ["math/bits.divideError", "math/bits.overflowError"], apart := false, narrowed := true }
def LimitJudgesUptoSaid : Prop := limitJudgesUptoRow.holds Try.pinned (OpenSpec.upto limitJudgesSpec)

/-- 'datumlaw19.EwmaReaches', WHERE WHAT IT READS IS OF BULK AT MOST 1048576: true; the input reads as it did. -/
def ewmaReachesUptoRow : OpenClaim := { program := "ytkdfkpalgejkkaa", sum := "29876c4028ec3996c8275cd25ff3279ddc5297409067766b19c587287f153bdb", func := "datum/datumlaw19.EwmaReaches", spec := "ewmaReaches", inPlace := ["math/bits.Add64", "math/bits.Sub64"], unfollowed := true, recurses := true, named := ["math/bits.divideError", "math/bits.overflowError"], apart := false, narrowed := true }
def EwmaReachesUptoSaid : Prop := ewmaReachesUptoRow.holds Try.pinned (OpenSpec.upto ewmaReachesSpec)

/-- 'datumlaw19.EwmaHolds', WHERE WHAT IT READS IS OF BULK AT MOST 1048576: true; the input reads as it did. -/
def ewmaHoldsUptoRow : OpenClaim := { program := "ytkdfkpalgejkkaa", sum := "29876c4028ec3996c8275cd25ff3279ddc5297409067766b19c587287f153bdb", func := "datum/datumlaw19.EwmaHolds", spec := "ewmaHolds", inPlace := ["math/bits.Sub64", "math/bits.Add64"], unfollowed := true, recurses := true, named := ["math/bits.divideError", "math/bits.overflowError"], apart := false, narrowed := true }
def EwmaHoldsUptoSaid : Prop := ewmaHoldsUptoRow.holds Try.pinned (OpenSpec.upto ewmaHoldsSpec)

/-- 'datumlaw19.EwmaTurns', WHERE WHAT IT READS IS OF BULK AT MOST 1048576: true; the input reads as it did. -/
def ewmaTurnsUptoRow : OpenClaim := { program := "ytkdfkpalgejkkaa", sum := "29876c4028ec3996c8275cd25ff3279ddc5297409067766b19c587287f153bdb", func := "datum/datumlaw19.EwmaTurns", spec := "ewmaTurns", inPlace := ["math/bits.Sub64", "math/bits.Add64"], unfollowed := true, recurses := true, named := ["math/bits.divideError", "math/bits.overflowError"], apart := false, narrowed := true }
def EwmaTurnsUptoSaid : Prop := ewmaTurnsUptoRow.holds Try.pinned (OpenSpec.upto ewmaTurnsSpec)

/-- 'datumlaw17.LimitMasks', WHERE WHAT IT READS IS OF BULK AT MOST 1048576: true; the input reads as it did. -/
def limitMasksUptoRow : OpenClaim := { program := "ytkdfkpalgejkkaa", sum := "29876c4028ec3996c8275cd25ff3279ddc5297409067766b19c587287f153bdb", func := "datum/datumlaw17.LimitMasks", spec := "limitMasks", inPlace := ["math/bits.Sub64", "math/bits.Add64"], unfollowed := true, recurses := true, named := ["math/bits.divideError", "math/bits.overflowError"], apart := false, narrowed := true }
def LimitMasksUptoSaid : Prop := limitMasksUptoRow.holds Try.pinned (OpenSpec.upto limitMasksSpec)

end Rows
end Go.Proofs.Ytkdfkpalgejkkaa
