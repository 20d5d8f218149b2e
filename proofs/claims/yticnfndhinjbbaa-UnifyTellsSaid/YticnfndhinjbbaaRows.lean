/-
  No cell of these rows narrows 'for every input' (looked for: loops, veiled, ifaces, maps, wideKeys, modest, calm, conditions, laid).
  DERIVED. THE GIVEN ROWS OF THIS SEAT. 8 by the template 'for every input the law returns true; each argument reads behind the call as it read before'; 0 by the template 'total and deterministic' (their statements: YticnfndhinjbbaaTotals.lean).
  GIVEN WITH THE SEED: the statements are not yours to turn. If you find one false, say at which input.
  Laid BY PROGRAM, IN A SANDBOX (cutbox-rows.mjs): the forced cells as the released guide's own fill.sh prints them over the translation 987f04421d8ff3c8… (all of the seat's roots in one cut). By AI agents, Wed Nov 11 2026. No macro, syntax, notation, axiom, sorry.
-/
import Derived.Test.YticnfndhinjbbaaChecked
import GoSem.Claim
import GoSem.ClaimJoined
import GoSem.ClaimMapViews
import Derived.JoinedTies
import Derived.KernelRfl
namespace Go.Proofs.Yticnfndhinjbbaa
/- THE CELL 'sum', in the pinned program and in every row, IS THE sha256 OF THE DUMP (.gsa) THAT YticnfndhinjbbaaProg.lean LOADS. Nothing in Lean hashes anything: it is a label: what it is worth is what the hold of that sum in a sandbox is worth. -/
noncomputable def Try.pinned : Pinned := { name := "yticnfndhinjbbaa", sum := "987f04421d8ff3c83360a678f913e72691a85ff8c2fd7ab1a880f85fa9779719", checked := Try.checked }
namespace Rows
def none {H : Type} : Left H := { results := [], args := [] }

/-- 'sorrellaw03.UnifyTells': WHATEVER THE INPUT: true; the input reads as it did. -/
def unifyTellsSpec : ChangeSpec := { name := "unifyTells", fn := fun _ => fun
  | [d1, d2] => { results := [.lit (.bool true)], args := [d1, d2] }
  | _ => none }
def unifyTellsRow : OpenClaim := { program := "yticnfndhinjbbaa", sum := "987f04421d8ff3c83360a678f913e72691a85ff8c2fd7ab1a880f85fa9779719", func := "sorrel/sorrellaw03.UnifyTells", spec := "unifyTells", unfollowed := true, recurses := true, apart := false }
def UnifyTellsSaid : Prop := unifyTellsRow.holds Try.pinned (OpenSpec.ofChange unifyTellsSpec)

/-- ITS FALSE NEIGHBOUR: 'it returns false'. Refute it at one input. -/
def unifyTellsWrong : ChangeSpec := { name := "unifyTells", fn := fun _ => fun
  | [d1, d2] => { results := [.lit (.bool false)], args := [d1, d2] }
  | _ => none }
def UnifyTellsWrongFalsely : Prop := unifyTellsRow.holds Try.pinned (OpenSpec.ofChange unifyTellsWrong)

/-- 'sorrellaw03.UnifyAlike': WHATEVER THE INPUT: true; the input reads as it did. -/
def unifyAlikeSpec : ChangeSpec := { name := "unifyAlike", fn := fun _ => fun
  | [d1, d2] => { results := [.lit (.bool true)], args := [d1, d2] }
  | _ => none }
def unifyAlikeRow : OpenClaim := { program := "yticnfndhinjbbaa", sum := "987f04421d8ff3c83360a678f913e72691a85ff8c2fd7ab1a880f85fa9779719", func := "sorrel/sorrellaw03.UnifyAlike", spec := "unifyAlike", unfollowed := true, recurses := true, apart := false }
def UnifyAlikeSaid : Prop := unifyAlikeRow.holds Try.pinned (OpenSpec.ofChange unifyAlikeSpec)

/-- ITS FALSE NEIGHBOUR: 'it returns false'. Refute it at one input. -/
def unifyAlikeWrong : ChangeSpec := { name := "unifyAlike", fn := fun _ => fun
  | [d1, d2] => { results := [.lit (.bool false)], args := [d1, d2] }
  | _ => none }
def UnifyAlikeWrongFalsely : Prop := unifyAlikeRow.holds Try.pinned (OpenSpec.ofChange unifyAlikeWrong)

/-- 'sorrellaw03.UnifyMost': WHATEVER THE INPUT: true; the input reads as it did. -/
def unifyMostSpec : ChangeSpec := { name := "unifyMost", fn := fun _ => fun
  | [d1, d2, d3] => { results := [.lit (.bool true)], args := [d1, d2, d3] }
  | _ => none }
def unifyMostRow : OpenClaim := { program := "yticnfndhinjbbaa", sum := "987f04421d8ff3c83360a678f913e72691a85ff8c2fd7ab1a880f85fa9779719", func := "sorrel/sorrellaw03.UnifyMost", spec := "unifyMost", unfollowed := true, recurses := true, apart := false }
def UnifyMostSaid : Prop := unifyMostRow.holds Try.pinned (OpenSpec.ofChange unifyMostSpec)

/-- ITS FALSE NEIGHBOUR: 'it returns false'. Refute it at one input. -/
def unifyMostWrong : ChangeSpec := { name := "unifyMost", fn := fun _ => fun
  | [d1, d2, d3] => { results := [.lit (.bool false)], args := [d1, d2, d3] }
  | _ => none }
def UnifyMostWrongFalsely : Prop := unifyMostRow.holds Try.pinned (OpenSpec.ofChange unifyMostWrong)

/-- 'sorrellaw03.UnifyTurn': WHATEVER THE INPUT: true; the input reads as it did. -/
def unifyTurnSpec : ChangeSpec := { name := "unifyTurn", fn := fun _ => fun
  | [d1, d2] => { results := [.lit (.bool true)], args := [d1, d2] }
  | _ => none }
def unifyTurnRow : OpenClaim := { program := "yticnfndhinjbbaa", sum := "987f04421d8ff3c83360a678f913e72691a85ff8c2fd7ab1a880f85fa9779719", func := "sorrel/sorrellaw03.UnifyTurn", spec := "unifyTurn", unfollowed := true, recurses := true, apart := false }
def UnifyTurnSaid : Prop := unifyTurnRow.holds Try.pinned (OpenSpec.ofChange unifyTurnSpec)

/-- ITS FALSE NEIGHBOUR: 'it returns false'. Refute it at one input. -/
def unifyTurnWrong : ChangeSpec := { name := "unifyTurn", fn := fun _ => fun
  | [d1, d2] => { results := [.lit (.bool false)], args := [d1, d2] }
  | _ => none }
def UnifyTurnWrongFalsely : Prop := unifyTurnRow.holds Try.pinned (OpenSpec.ofChange unifyTurnWrong)

/-- 'sorrellaw03.UnifyParts': WHATEVER THE INPUT: true; the input reads as it did. -/
def unifyPartsSpec : ChangeSpec := { name := "unifyParts", fn := fun _ => fun
  | [d1, d2] => { results := [.lit (.bool true)], args := [d1, d2] }
  | _ => none }
def unifyPartsRow : OpenClaim := { program := "yticnfndhinjbbaa", sum := "987f04421d8ff3c83360a678f913e72691a85ff8c2fd7ab1a880f85fa9779719", func := "sorrel/sorrellaw03.UnifyParts", spec := "unifyParts", unfollowed := true, recurses := true, apart := false }
def UnifyPartsSaid : Prop := unifyPartsRow.holds Try.pinned (OpenSpec.ofChange unifyPartsSpec)

/-- ITS FALSE NEIGHBOUR: 'it returns false'. Refute it at one input. -/
def unifyPartsWrong : ChangeSpec := { name := "unifyParts", fn := fun _ => fun
  | [d1, d2] => { results := [.lit (.bool false)], args := [d1, d2] }
  | _ => none }
def UnifyPartsWrongFalsely : Prop := unifyPartsRow.holds Try.pinned (OpenSpec.ofChange unifyPartsWrong)

/-- 'sorrellaw03.UnifyOneWay': WHATEVER THE INPUT: true; the input reads as it did. -/
def unifyOneWaySpec : ChangeSpec := { name := "unifyOneWay", fn := fun _ => fun
  | [d1, d2] => { results := [.lit (.bool true)], args := [d1, d2] }
  | _ => none }
def unifyOneWayRow : OpenClaim := { program := "yticnfndhinjbbaa", sum := "987f04421d8ff3c83360a678f913e72691a85ff8c2fd7ab1a880f85fa9779719", func := "sorrel/sorrellaw03.UnifyOneWay", spec := "unifyOneWay", unfollowed := true, recurses := true, apart := false }
def UnifyOneWaySaid : Prop := unifyOneWayRow.holds Try.pinned (OpenSpec.ofChange unifyOneWaySpec)

/-- ITS FALSE NEIGHBOUR: 'it returns false'. Refute it at one input. -/
def unifyOneWayWrong : ChangeSpec := { name := "unifyOneWay", fn := fun _ => fun
  | [d1, d2] => { results := [.lit (.bool false)], args := [d1, d2] }
  | _ => none }
def UnifyOneWayWrongFalsely : Prop := unifyOneWayRow.holds Try.pinned (OpenSpec.ofChange unifyOneWayWrong)

/-- 'sorrellaw03.UnifyVariants': WHATEVER THE INPUT: true; the input reads as it did. -/
def unifyVariantsSpec : ChangeSpec := { name := "unifyVariants", fn := fun _ => fun
  | [d1, d2, d3] => { results := [.lit (.bool true)], args := [d1, d2, d3] }
  | _ => none }
def unifyVariantsRow : OpenClaim := { program := "yticnfndhinjbbaa", sum := "987f04421d8ff3c83360a678f913e72691a85ff8c2fd7ab1a880f85fa9779719", func := "sorrel/sorrellaw03.UnifyVariants", spec := "unifyVariants", unfollowed := true, recurses := true, apart := false }
def UnifyVariantsSaid : Prop := unifyVariantsRow.holds Try.pinned (OpenSpec.ofChange unifyVariantsSpec)

/-- ITS FALSE NEIGHBOUR: 'it returns false'. Refute it at one input. -/
def unifyVariantsWrong : ChangeSpec := { name := "unifyVariants", fn := fun _ => fun
  | [d1, d2, d3] => { results := [.lit (.bool false)], args := [d1, d2, d3] }
  | _ => none }
def UnifyVariantsWrongFalsely : Prop := unifyVariantsRow.holds Try.pinned (OpenSpec.ofChange unifyVariantsWrong)

/-- 'sorrellaw03.UnifyApart': WHATEVER THE INPUT: true; the input reads as it did. -/
def unifyApartSpec : ChangeSpec := { name := "unifyApart", fn := fun _ => fun
  | [d1, d2] => { results := [.lit (.bool true)], args := [d1, d2] }
  | _ => none }
def unifyApartRow : OpenClaim := { program := "yticnfndhinjbbaa", sum := "987f04421d8ff3c83360a678f913e72691a85ff8c2fd7ab1a880f85fa9779719", func := "sorrel/sorrellaw03.UnifyApart", spec := "unifyApart", unfollowed := true, recurses := true, apart := false }
def UnifyApartSaid : Prop := unifyApartRow.holds Try.pinned (OpenSpec.ofChange unifyApartSpec)

/-- ITS FALSE NEIGHBOUR: 'it returns false'. Refute it at one input. -/
def unifyApartWrong : ChangeSpec := { name := "unifyApart", fn := fun _ => fun
  | [d1, d2] => { results := [.lit (.bool false)], args := [d1, d2] }
  | _ => none }
def UnifyApartWrongFalsely : Prop := unifyApartRow.holds Try.pinned (OpenSpec.ofChange unifyApartWrong)

/- THE SECOND FORM. 'bulk': how many values and letters a reading holds, each counted each time it is reached (what is shared counts as often as it is met; a slice's spare places count too). A statement '..UptoSaid' is the law's where the arguments, and the package variables that the reading takes, are together of bulk at most 1048576: NARROWER than '..Said'. Prove '..Said' where nothing that the law and all that it calls make is longer than what came in: it says more and counts as full. Else prove '..UptoSaid'. A law counts once. -/
mutual
def uptoBulk {H : Type} : DataW H → Nat
  | .lit (.string bytes) => bytes.length + 1
  | .lit _ => 1
  | .nil => 1
  | .ptr d => uptoBulk d + 1
  | .slice elems spare => uptoBulkAll elems + uptoBulkAll spare + 1
  | .agg parts => uptoBulkAll parts + 1
  | .iface _ d => uptoBulk d + 1
  | .map entries => uptoBulkEntries entries + 1
  | .held _ => 1
def uptoBulkAll {H : Type} : List (DataW H) → Nat
  | [] => 0
  | d :: r => uptoBulk d + uptoBulkAll r
def uptoBulkEntries {H : Type} : List (Lit × DataW H) → Nat
  | [] => 0
  | x :: r => uptoBulkEntry x + uptoBulkEntries r
def uptoBulkEntry {H : Type} : Lit × DataW H → Nat
  | (.string bytes, d) => bytes.length + uptoBulk d + 1
  | (_, d) => uptoBulk d + 1
 end
def uptoSmall : (H : Type) → List (DataW H) → Bool := fun _ ds => decide (uptoBulkAll ds ≤ 1048576)
def OpenSpec.upto (s : _root_.Go.ChangeSpec) : _root_.Go.OpenSpec := { _root_.Go.OpenSpec.ofChange s with cond := some uptoSmall }

/-- 'sorrellaw03.UnifyTells', WHERE WHAT IT READS IS OF BULK AT MOST 1048576: true; the input reads as it did. -/
def unifyTellsUptoRow : OpenClaim := { program := "yticnfndhinjbbaa", sum := "987f04421d8ff3c83360a678f913e72691a85ff8c2fd7ab1a880f85fa9779719", func := "sorrel/sorrellaw03.UnifyTells", spec := "unifyTells", unfollowed := true, recurses := true, apart := false, narrowed := true }
def UnifyTellsUptoSaid : Prop := unifyTellsUptoRow.holds Try.pinned (OpenSpec.upto unifyTellsSpec)

/-- 'sorrellaw03.UnifyAlike', WHERE WHAT IT READS IS OF BULK AT MOST 1048576: true; the input reads as it did. -/
def unifyAlikeUptoRow : OpenClaim := { program := "yticnfndhinjbbaa", sum := "987f04421d8ff3c83360a678f913e72691a85ff8c2fd7ab1a880f85fa9779719", func := "sorrel/sorrellaw03.UnifyAlike", spec := "unifyAlike", unfollowed := true, recurses := true, apart := false, narrowed := true }
def UnifyAlikeUptoSaid : Prop := unifyAlikeUptoRow.holds Try.pinned (OpenSpec.upto unifyAlikeSpec)

/-- 'sorrellaw03.UnifyMost', WHERE WHAT IT READS IS OF BULK AT MOST 1048576: true; the input reads as it did. -/
def unifyMostUptoRow : OpenClaim := { program := "yticnfndhinjbbaa", sum := "987f04421d8ff3c83360a678f913e72691a85ff8c2fd7ab1a880f85fa9779719", func := "sorrel/sorrellaw03.UnifyMost", spec := "unifyMost", unfollowed := true, recurses := true, apart := false, narrowed := true }
def UnifyMostUptoSaid : Prop := unifyMostUptoRow.holds Try.pinned (OpenSpec.upto unifyMostSpec)

/-- 'sorrellaw03.UnifyTurn', WHERE WHAT IT READS IS OF BULK AT MOST 1048576: true; the input reads as it did. -/
def unifyTurnUptoRow : OpenClaim := { program := "yticnfndhinjbbaa", sum := "987f04421d8ff3c83360a678f913e72691a85ff8c2fd7ab1a880f85fa9779719", func := "sorrel/sorrellaw03.UnifyTurn", spec := "unifyTurn", unfollowed := true, recurses := true, apart := false, narrowed := true }
def UnifyTurnUptoSaid : Prop := unifyTurnUptoRow.holds Try.pinned (OpenSpec.upto unifyTurnSpec)

/-- 'sorrellaw03.UnifyParts', WHERE WHAT IT READS IS OF BULK AT MOST 1048576: true; the input reads as it did. -/
def unifyPartsUptoRow : OpenClaim := { program := "yticnfndhinjbbaa", sum := "987f04421d8ff3c83360a678f913e72691a85ff8c2fd7ab1a880f85fa9779719", func := "sorrel/sorrellaw03.UnifyParts", spec := "unifyParts", unfollowed := true, recurses := true, apart := false, narrowed := true }
def UnifyPartsUptoSaid : Prop := unifyPartsUptoRow.holds Try.pinned (OpenSpec.upto unifyPartsSpec)

/-- 'sorrellaw03.UnifyOneWay', WHERE WHAT IT READS IS OF BULK AT MOST 1048576: true; the input reads as it did. -/
def unifyOneWayUptoRow : OpenClaim := { program := "yticnfndhinjbbaa", sum := "987f04421d8ff3c83360a678f913e72691a85ff8c2fd7ab1a880f85fa9779719", func := "sorrel/sorrellaw03.UnifyOneWay", spec := "unifyOneWay", unfollowed := true, recurses := true, apart := false, narrowed := true }
def UnifyOneWayUptoSaid : Prop := unifyOneWayUptoRow.holds Try.pinned (OpenSpec.upto unifyOneWaySpec)

/-- 'sorrellaw03.UnifyVariants', WHERE WHAT IT READS IS OF BULK AT MOST 1048576: true; the input reads as it did. -/
def unifyVariantsUptoRow : OpenClaim := { program := "yticnfndhinjbbaa", sum := "987f04421d8ff3c83360a678f913e72691a85ff8c2fd7ab1a880f85fa9779719", func := "sorrel/sorrellaw03.UnifyVariants", spec := "unifyVariants", unfollowed := true, recurses := true, apart := false, narrowed := true }
def UnifyVariantsUptoSaid : Prop := unifyVariantsUptoRow.holds Try.pinned (OpenSpec.upto unifyVariantsSpec)

/-- 'sorrellaw03.UnifyApart', WHERE WHAT IT READS IS OF BULK AT MOST 1048576: true; the input reads as it did. -/
def unifyApartUptoRow : OpenClaim := { program := "yticnfndhinjbbaa", sum := "987f04421d8ff3c83360a678f913e72691a85ff8c2fd7ab1a880f85fa9779719", func := "sorrel/sorrellaw03.UnifyApart", spec := "unifyApart", unfollowed := true, recurses := true, apart := false, narrowed := true }
def UnifyApartUptoSaid : Prop := unifyApartUptoRow.holds Try.pinned (OpenSpec.upto unifyApartSpec)

end Rows
end Go.Proofs.Yticnfndhinjbbaa
