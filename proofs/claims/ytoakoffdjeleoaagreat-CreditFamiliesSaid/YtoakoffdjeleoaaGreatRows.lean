/-
  No cell of these rows narrows 'for every input' (looked for: loops, veiled, ifaces, maps, wideKeys, modest, calm, conditions, laid).
  DERIVED. THE GIVEN ROWS OF THIS SEAT. 17 by the template 'for every input the law returns true; each argument reads behind the call as it read before'; 0 by the template 'total and deterministic' (their statements: YtoakoffdjeleoaaGreatTotals.lean).
  GIVEN WITH THE SEED: the statements are not yours to turn. If you find one false, say at which input.
  Laid BY PROGRAM, IN A SANDBOX (cutbox-rows.mjs): the forced cells as the released guide's own fill.sh prints them over the translation a6873ddd564d703a… (all of the seat's roots in one cut). By AI agents, Wed Nov 11 2026. No macro, syntax, notation, axiom, sorry.
-/
import Derived.Test.YtoakoffdjeleoaaGreatChecked
import GoSem.Claim
import GoSem.ClaimJoined
import GoSem.ClaimMapViews
import Derived.JoinedTies
import Derived.KernelRfl
namespace Go.Proofs.YtoakoffdjeleoaaGreat
/- THE CELL 'sum', in the pinned program and in every row, IS THE sha256 OF THE DUMP (.gsa) THAT YtoakoffdjeleoaaGreatProg.lean LOADS. Nothing in Lean hashes anything: it is a label: what it is worth is what the hold of that sum in a sandbox is worth. -/
noncomputable def Tryz.pinned : Pinned := { name := "ytoakoffdjeleoaagreat", sum := "a6873ddd564d703addf431deaa05a15e4861aa92af55bfc6dce12736adabb5f0", checked := Tryz.checked }
namespace Rows
def none {H : Type} : Left H := { results := [], args := [] }

/-- 'boundstonelaw07.CreditChecks': WHATEVER THE INPUT: true; the input reads as it did. -/
def creditChecksSpec : ChangeSpec := { name := "creditChecks", fn := fun _ => fun
  | [d1, d2] => { results := [.lit (.bool true)], args := [d1, d2] }
  | _ => none }
def creditChecksRow : OpenClaim := { program := "ytoakoffdjeleoaagreat", sum := "a6873ddd564d703addf431deaa05a15e4861aa92af55bfc6dce12736adabb5f0", func := "boundstone/boundstonelaw07.CreditChecks", spec := "creditChecks", unfollowed := true, recurses := true, apart := false }
def CreditChecksSaid : Prop := creditChecksRow.holds Tryz.pinned (OpenSpec.ofChange creditChecksSpec)

/-- ITS FALSE NEIGHBOUR: 'it returns false'. Refute it at one input. -/
def creditChecksWrong : ChangeSpec := { name := "creditChecks", fn := fun _ => fun
  | [d1, d2] => { results := [.lit (.bool false)], args := [d1, d2] }
  | _ => none }
def CreditChecksWrongFalsely : Prop := creditChecksRow.holds Tryz.pinned (OpenSpec.ofChange creditChecksWrong)

/-- 'boundstonelaw07.CreditJudges': WHATEVER THE INPUT: true; the input reads as it did. -/
def creditJudgesSpec : ChangeSpec := { name := "creditJudges", fn := fun _ => fun
  | [d1, d2] => { results := [.lit (.bool true)], args := [d1, d2] }
  | _ => none }
def creditJudgesRow : OpenClaim := { program := "ytoakoffdjeleoaagreat", sum := "a6873ddd564d703addf431deaa05a15e4861aa92af55bfc6dce12736adabb5f0", func := "boundstone/boundstonelaw07.CreditJudges", spec := "creditJudges", unfollowed := true, recurses := true, apart := false }
def CreditJudgesSaid : Prop := creditJudgesRow.holds Tryz.pinned (OpenSpec.ofChange creditJudgesSpec)

/-- ITS FALSE NEIGHBOUR: 'it returns false'. Refute it at one input. -/
def creditJudgesWrong : ChangeSpec := { name := "creditJudges", fn := fun _ => fun
  | [d1, d2] => { results := [.lit (.bool false)], args := [d1, d2] }
  | _ => none }
def CreditJudgesWrongFalsely : Prop := creditJudgesRow.holds Tryz.pinned (OpenSpec.ofChange creditJudgesWrong)

/-- 'boundstonelaw07.CreditNames': WHATEVER THE INPUT: true; the input reads as it did. -/
def creditNamesSpec : ChangeSpec := { name := "creditNames", fn := fun _ => fun
  | [d1, d2, d3] => { results := [.lit (.bool true)], args := [d1, d2, d3] }
  | _ => none }
def creditNamesRow : OpenClaim := { program := "ytoakoffdjeleoaagreat", sum := "a6873ddd564d703addf431deaa05a15e4861aa92af55bfc6dce12736adabb5f0", func := "boundstone/boundstonelaw07.CreditNames", spec := "creditNames", unfollowed := true, recurses := true, apart := false }
def CreditNamesSaid : Prop := creditNamesRow.holds Tryz.pinned (OpenSpec.ofChange creditNamesSpec)

/-- ITS FALSE NEIGHBOUR: 'it returns false'. Refute it at one input. -/
def creditNamesWrong : ChangeSpec := { name := "creditNames", fn := fun _ => fun
  | [d1, d2, d3] => { results := [.lit (.bool false)], args := [d1, d2, d3] }
  | _ => none }
def CreditNamesWrongFalsely : Prop := creditNamesRow.holds Tryz.pinned (OpenSpec.ofChange creditNamesWrong)

/-- 'boundstonelaw07.CreditFinds': WHATEVER THE INPUT: true; the input reads as it did. -/
def creditFindsSpec : ChangeSpec := { name := "creditFinds", fn := fun _ => fun
  | [d] => { results := [.lit (.bool true)], args := [d] }
  | _ => none }
def creditFindsRow : OpenClaim := { program := "ytoakoffdjeleoaagreat", sum := "a6873ddd564d703addf431deaa05a15e4861aa92af55bfc6dce12736adabb5f0", func := "boundstone/boundstonelaw07.CreditFinds", spec := "creditFinds", unfollowed := true, recurses := true, apart := false }
def CreditFindsSaid : Prop := creditFindsRow.holds Tryz.pinned (OpenSpec.ofChange creditFindsSpec)

/-- ITS FALSE NEIGHBOUR: 'it returns false'. Refute it at one input. -/
def creditFindsWrong : ChangeSpec := { name := "creditFinds", fn := fun _ => fun
  | [d] => { results := [.lit (.bool false)], args := [d] }
  | _ => none }
def CreditFindsWrongFalsely : Prop := creditFindsRow.holds Tryz.pinned (OpenSpec.ofChange creditFindsWrong)

/-- 'boundstonelaw07.CreditFamilies': WHATEVER THE INPUT: true; the input reads as it did. -/
def creditFamiliesSpec : ChangeSpec := { name := "creditFamilies", fn := fun _ => fun
  | [d1, d2] => { results := [.lit (.bool true)], args := [d1, d2] }
  | _ => none }
def creditFamiliesRow : OpenClaim := { program := "ytoakoffdjeleoaagreat", sum := "a6873ddd564d703addf431deaa05a15e4861aa92af55bfc6dce12736adabb5f0", func := "boundstone/boundstonelaw07.CreditFamilies", spec := "creditFamilies", unfollowed := true, recurses := true, apart := false }
def CreditFamiliesSaid : Prop := creditFamiliesRow.holds Tryz.pinned (OpenSpec.ofChange creditFamiliesSpec)

/-- ITS FALSE NEIGHBOUR: 'it returns false'. Refute it at one input. -/
def creditFamiliesWrong : ChangeSpec := { name := "creditFamilies", fn := fun _ => fun
  | [d1, d2] => { results := [.lit (.bool false)], args := [d1, d2] }
  | _ => none }
def CreditFamiliesWrongFalsely : Prop := creditFamiliesRow.holds Tryz.pinned (OpenSpec.ofChange creditFamiliesWrong)

/-- 'boundstonelaw07.CreditHits': WHATEVER THE INPUT: true; the input reads as it did. -/
def creditHitsSpec : ChangeSpec := { name := "creditHits", fn := fun _ => fun
  | [d] => { results := [.lit (.bool true)], args := [d] }
  | _ => none }
def creditHitsRow : OpenClaim := { program := "ytoakoffdjeleoaagreat", sum := "a6873ddd564d703addf431deaa05a15e4861aa92af55bfc6dce12736adabb5f0", func := "boundstone/boundstonelaw07.CreditHits", spec := "creditHits", unfollowed := true, recurses := true, apart := false }
def CreditHitsSaid : Prop := creditHitsRow.holds Tryz.pinned (OpenSpec.ofChange creditHitsSpec)

/-- ITS FALSE NEIGHBOUR: 'it returns false'. Refute it at one input. -/
def creditHitsWrong : ChangeSpec := { name := "creditHits", fn := fun _ => fun
  | [d] => { results := [.lit (.bool false)], args := [d] }
  | _ => none }
def CreditHitsWrongFalsely : Prop := creditHitsRow.holds Tryz.pinned (OpenSpec.ofChange creditHitsWrong)

/-- 'boundstonelaw07.CreditPrices': WHATEVER THE INPUT: true; the input reads as it did. -/
def creditPricesSpec : ChangeSpec := { name := "creditPrices", fn := fun _ => fun
  | [d] => { results := [.lit (.bool true)], args := [d] }
  | _ => none }
def creditPricesRow : OpenClaim := { program := "ytoakoffdjeleoaagreat", sum := "a6873ddd564d703addf431deaa05a15e4861aa92af55bfc6dce12736adabb5f0", func := "boundstone/boundstonelaw07.CreditPrices", spec := "creditPrices", unfollowed := true, recurses := true, apart := false }
def CreditPricesSaid : Prop := creditPricesRow.holds Tryz.pinned (OpenSpec.ofChange creditPricesSpec)

/-- ITS FALSE NEIGHBOUR: 'it returns false'. Refute it at one input. -/
def creditPricesWrong : ChangeSpec := { name := "creditPrices", fn := fun _ => fun
  | [d] => { results := [.lit (.bool false)], args := [d] }
  | _ => none }
def CreditPricesWrongFalsely : Prop := creditPricesRow.holds Tryz.pinned (OpenSpec.ofChange creditPricesWrong)

/-- 'boundstonelaw07.CreditRecords': WHATEVER THE INPUT: true; the input reads as it did. -/
def creditRecordsSpec : ChangeSpec := { name := "creditRecords", fn := fun _ => fun
  | [d1, d2, d3] => { results := [.lit (.bool true)], args := [d1, d2, d3] }
  | _ => none }
def creditRecordsRow : OpenClaim := { program := "ytoakoffdjeleoaagreat", sum := "a6873ddd564d703addf431deaa05a15e4861aa92af55bfc6dce12736adabb5f0", func := "boundstone/boundstonelaw07.CreditRecords", spec := "creditRecords", unfollowed := true, recurses := true, apart := false }
def CreditRecordsSaid : Prop := creditRecordsRow.holds Tryz.pinned (OpenSpec.ofChange creditRecordsSpec)

/-- ITS FALSE NEIGHBOUR: 'it returns false'. Refute it at one input. -/
def creditRecordsWrong : ChangeSpec := { name := "creditRecords", fn := fun _ => fun
  | [d1, d2, d3] => { results := [.lit (.bool false)], args := [d1, d2, d3] }
  | _ => none }
def CreditRecordsWrongFalsely : Prop := creditRecordsRow.holds Tryz.pinned (OpenSpec.ofChange creditRecordsWrong)

/-- 'boundstonelaw07.CreditWeighs': WHATEVER THE INPUT: true; the input reads as it did. -/
def creditWeighsSpec : ChangeSpec := { name := "creditWeighs", fn := fun _ => fun
  | [d1, d2] => { results := [.lit (.bool true)], args := [d1, d2] }
  | _ => none }
def creditWeighsRow : OpenClaim := { program := "ytoakoffdjeleoaagreat", sum := "a6873ddd564d703addf431deaa05a15e4861aa92af55bfc6dce12736adabb5f0", func := "boundstone/boundstonelaw07.CreditWeighs", spec := "creditWeighs", unfollowed := true, recurses := true, apart := false }
def CreditWeighsSaid : Prop := creditWeighsRow.holds Tryz.pinned (OpenSpec.ofChange creditWeighsSpec)

/-- ITS FALSE NEIGHBOUR: 'it returns false'. Refute it at one input. -/
def creditWeighsWrong : ChangeSpec := { name := "creditWeighs", fn := fun _ => fun
  | [d1, d2] => { results := [.lit (.bool false)], args := [d1, d2] }
  | _ => none }
def CreditWeighsWrongFalsely : Prop := creditWeighsRow.holds Tryz.pinned (OpenSpec.ofChange creditWeighsWrong)

/-- 'boundstonelaw07.CreditIsTrue': WHATEVER THE INPUT: true; the input reads as it did. -/
def creditIsTrueSpec : ChangeSpec := { name := "creditIsTrue", fn := fun _ => fun
  | [d1, d2, d3] => { results := [.lit (.bool true)], args := [d1, d2, d3] }
  | _ => none }
def creditIsTrueRow : OpenClaim := { program := "ytoakoffdjeleoaagreat", sum := "a6873ddd564d703addf431deaa05a15e4861aa92af55bfc6dce12736adabb5f0", func := "boundstone/boundstonelaw07.CreditIsTrue", spec := "creditIsTrue", unfollowed := true, recurses := true, apart := false }
def CreditIsTrueSaid : Prop := creditIsTrueRow.holds Tryz.pinned (OpenSpec.ofChange creditIsTrueSpec)

/-- ITS FALSE NEIGHBOUR: 'it returns false'. Refute it at one input. -/
def creditIsTrueWrong : ChangeSpec := { name := "creditIsTrue", fn := fun _ => fun
  | [d1, d2, d3] => { results := [.lit (.bool false)], args := [d1, d2, d3] }
  | _ => none }
def CreditIsTrueWrongFalsely : Prop := creditIsTrueRow.holds Tryz.pinned (OpenSpec.ofChange creditIsTrueWrong)

/-- 'boundstonelaw07.CreditDual': WHATEVER THE INPUT: true; the input reads as it did. -/
def creditDualSpec : ChangeSpec := { name := "creditDual", fn := fun _ => fun
  | [d1, d2] => { results := [.lit (.bool true)], args := [d1, d2] }
  | _ => none }
def creditDualRow : OpenClaim := { program := "ytoakoffdjeleoaagreat", sum := "a6873ddd564d703addf431deaa05a15e4861aa92af55bfc6dce12736adabb5f0", func := "boundstone/boundstonelaw07.CreditDual", spec := "creditDual", unfollowed := true, recurses := true, apart := false }
def CreditDualSaid : Prop := creditDualRow.holds Tryz.pinned (OpenSpec.ofChange creditDualSpec)

/-- ITS FALSE NEIGHBOUR: 'it returns false'. Refute it at one input. -/
def creditDualWrong : ChangeSpec := { name := "creditDual", fn := fun _ => fun
  | [d1, d2] => { results := [.lit (.bool false)], args := [d1, d2] }
  | _ => none }
def CreditDualWrongFalsely : Prop := creditDualRow.holds Tryz.pinned (OpenSpec.ofChange creditDualWrong)

/-- 'boundstonelaw07.CreditGrows': WHATEVER THE INPUT: true; the input reads as it did. -/
def creditGrowsSpec : ChangeSpec := { name := "creditGrows", fn := fun _ => fun
  | [d1, d2] => { results := [.lit (.bool true)], args := [d1, d2] }
  | _ => none }
def creditGrowsRow : OpenClaim := { program := "ytoakoffdjeleoaagreat", sum := "a6873ddd564d703addf431deaa05a15e4861aa92af55bfc6dce12736adabb5f0", func := "boundstone/boundstonelaw07.CreditGrows", spec := "creditGrows", unfollowed := true, recurses := true, apart := false }
def CreditGrowsSaid : Prop := creditGrowsRow.holds Tryz.pinned (OpenSpec.ofChange creditGrowsSpec)

/-- ITS FALSE NEIGHBOUR: 'it returns false'. Refute it at one input. -/
def creditGrowsWrong : ChangeSpec := { name := "creditGrows", fn := fun _ => fun
  | [d1, d2] => { results := [.lit (.bool false)], args := [d1, d2] }
  | _ => none }
def CreditGrowsWrongFalsely : Prop := creditGrowsRow.holds Tryz.pinned (OpenSpec.ofChange creditGrowsWrong)

/-- 'boundstonelaw07.CreditEdits': WHATEVER THE INPUT: true; the input reads as it did. -/
def creditEditsSpec : ChangeSpec := { name := "creditEdits", fn := fun _ => fun
  | [d1, d2] => { results := [.lit (.bool true)], args := [d1, d2] }
  | _ => none }
def creditEditsRow : OpenClaim := { program := "ytoakoffdjeleoaagreat", sum := "a6873ddd564d703addf431deaa05a15e4861aa92af55bfc6dce12736adabb5f0", func := "boundstone/boundstonelaw07.CreditEdits", spec := "creditEdits", unfollowed := true, recurses := true, apart := false }
def CreditEditsSaid : Prop := creditEditsRow.holds Tryz.pinned (OpenSpec.ofChange creditEditsSpec)

/-- ITS FALSE NEIGHBOUR: 'it returns false'. Refute it at one input. -/
def creditEditsWrong : ChangeSpec := { name := "creditEdits", fn := fun _ => fun
  | [d1, d2] => { results := [.lit (.bool false)], args := [d1, d2] }
  | _ => none }
def CreditEditsWrongFalsely : Prop := creditEditsRow.holds Tryz.pinned (OpenSpec.ofChange creditEditsWrong)

/-- 'boundstonelaw07.CreditProves': WHATEVER THE INPUT: true; the input reads as it did. -/
def creditProvesSpec : ChangeSpec := { name := "creditProves", fn := fun _ => fun
  | [d1, d2, d3] => { results := [.lit (.bool true)], args := [d1, d2, d3] }
  | _ => none }
def creditProvesRow : OpenClaim := { program := "ytoakoffdjeleoaagreat", sum := "a6873ddd564d703addf431deaa05a15e4861aa92af55bfc6dce12736adabb5f0", func := "boundstone/boundstonelaw07.CreditProves", spec := "creditProves", unfollowed := true, recurses := true, apart := false }
def CreditProvesSaid : Prop := creditProvesRow.holds Tryz.pinned (OpenSpec.ofChange creditProvesSpec)

/-- ITS FALSE NEIGHBOUR: 'it returns false'. Refute it at one input. -/
def creditProvesWrong : ChangeSpec := { name := "creditProves", fn := fun _ => fun
  | [d1, d2, d3] => { results := [.lit (.bool false)], args := [d1, d2, d3] }
  | _ => none }
def CreditProvesWrongFalsely : Prop := creditProvesRow.holds Tryz.pinned (OpenSpec.ofChange creditProvesWrong)

/-- 'boundstonelaw07.CreditAccounts': WHATEVER THE INPUT: true; the input reads as it did. -/
def creditAccountsSpec : ChangeSpec := { name := "creditAccounts", fn := fun _ => fun
  | [d] => { results := [.lit (.bool true)], args := [d] }
  | _ => none }
def creditAccountsRow : OpenClaim := { program := "ytoakoffdjeleoaagreat", sum := "a6873ddd564d703addf431deaa05a15e4861aa92af55bfc6dce12736adabb5f0", func := "boundstone/boundstonelaw07.CreditAccounts", spec := "creditAccounts", unfollowed := true, recurses := true, apart := false }
def CreditAccountsSaid : Prop := creditAccountsRow.holds Tryz.pinned (OpenSpec.ofChange creditAccountsSpec)

/-- ITS FALSE NEIGHBOUR: 'it returns false'. Refute it at one input. -/
def creditAccountsWrong : ChangeSpec := { name := "creditAccounts", fn := fun _ => fun
  | [d] => { results := [.lit (.bool false)], args := [d] }
  | _ => none }
def CreditAccountsWrongFalsely : Prop := creditAccountsRow.holds Tryz.pinned (OpenSpec.ofChange creditAccountsWrong)

/-- 'boundstonelaw07.CreditTampers': WHATEVER THE INPUT: true; the input reads as it did. -/
def creditTampersSpec : ChangeSpec := { name := "creditTampers", fn := fun _ => fun
  | [d1, d2] => { results := [.lit (.bool true)], args := [d1, d2] }
  | _ => none }
def creditTampersRow : OpenClaim := { program := "ytoakoffdjeleoaagreat", sum := "a6873ddd564d703addf431deaa05a15e4861aa92af55bfc6dce12736adabb5f0", func := "boundstone/boundstonelaw07.CreditTampers", spec := "creditTampers", unfollowed := true, recurses := true, apart := false }
def CreditTampersSaid : Prop := creditTampersRow.holds Tryz.pinned (OpenSpec.ofChange creditTampersSpec)

/-- ITS FALSE NEIGHBOUR: 'it returns false'. Refute it at one input. -/
def creditTampersWrong : ChangeSpec := { name := "creditTampers", fn := fun _ => fun
  | [d1, d2] => { results := [.lit (.bool false)], args := [d1, d2] }
  | _ => none }
def CreditTampersWrongFalsely : Prop := creditTampersRow.holds Tryz.pinned (OpenSpec.ofChange creditTampersWrong)

/-- 'boundstonelaw07.CreditIsRight': WHATEVER THE INPUT: true; the input reads as it did. -/
def creditIsRightSpec : ChangeSpec := { name := "creditIsRight", fn := fun _ => fun
  | [d1, d2, d3] => { results := [.lit (.bool true)], args := [d1, d2, d3] }
  | _ => none }
def creditIsRightRow : OpenClaim := { program := "ytoakoffdjeleoaagreat", sum := "a6873ddd564d703addf431deaa05a15e4861aa92af55bfc6dce12736adabb5f0", func := "boundstone/boundstonelaw07.CreditIsRight", spec := "creditIsRight", unfollowed := true, recurses := true, apart := false }
def CreditIsRightSaid : Prop := creditIsRightRow.holds Tryz.pinned (OpenSpec.ofChange creditIsRightSpec)

/-- ITS FALSE NEIGHBOUR: 'it returns false'. Refute it at one input. -/
def creditIsRightWrong : ChangeSpec := { name := "creditIsRight", fn := fun _ => fun
  | [d1, d2, d3] => { results := [.lit (.bool false)], args := [d1, d2, d3] }
  | _ => none }
def CreditIsRightWrongFalsely : Prop := creditIsRightRow.holds Tryz.pinned (OpenSpec.ofChange creditIsRightWrong)

/- THE SECOND FORM. 'bulk': how many values and letters a reading holds, each counted each time it is reached (what is shared counts as often as it is met; a slice's spare places count too). A statement '..UptoSaid' is the law's where the arguments, and the package variables that the reading takes, are together of bulk at most 1048576: NARROWER than '..Said'. Prove '..Said' where nothing that the law and all that it calls make is longer than what came in: it says more and counts as full. Else prove '..UptoSaid'. A law counts once. -/
mutual
def uptoBulk {H : Type} : DataW H → Nat
  | .lit (.string bytes) => bytes.length + 1
  | .lit _ => 1
  | .nil => 1
  | .ptr d => uptoBulk d + 1
  | .slice elems spare => uptoBulkAll elems + uptoBulkAll spare + 1
  | .agg parts => uptoBulkAll parts + 1
  | .iface _ d => uptoBulk d + 1
  | .map entries => uptoBulkEntries entries + 1
  | .held _ => 1
def uptoBulkAll {H : Type} : List (DataW H) → Nat
  | [] => 0
  | d :: r => uptoBulk d + uptoBulkAll r
def uptoBulkEntries {H : Type} : List (Lit × DataW H) → Nat
  | [] => 0
  | x :: r => uptoBulkEntry x + uptoBulkEntries r
def uptoBulkEntry {H : Type} : Lit × DataW H → Nat
  | (.string bytes, d) => bytes.length + uptoBulk d + 1
  | (_, d) => uptoBulk d + 1
 end
def uptoSmall : (H : Type) → List (DataW H) → Bool := fun _ ds => decide (uptoBulkAll ds ≤ 1048576)
def OpenSpec.upto (s : _root_.Go.ChangeSpec) : _root_.Go.OpenSpec := { _root_.Go.OpenSpec.ofChange s with cond := some uptoSmall }

/-- 'boundstonelaw07.CreditChecks', WHERE WHAT IT READS IS OF BULK AT MOST 1048576: true; the input reads as it did. -/
def creditChecksUptoRow : OpenClaim := { program := "ytoakoffdjeleoaagreat", sum := "a6873ddd564d703addf431deaa05a15e4861aa92af55bfc6dce12736adabb5f0", func := "boundstone/boundstonelaw07.CreditChecks", spec := "creditChecks", unfollowed := true, recurses := true, apart := false, narrowed := true }
def CreditChecksUptoSaid : Prop := creditChecksUptoRow.holds Tryz.pinned (OpenSpec.upto creditChecksSpec)

/-- 'boundstonelaw07.CreditJudges', WHERE WHAT IT READS IS OF BULK AT MOST 1048576: true; the input reads as it did. -/
def creditJudgesUptoRow : OpenClaim := { program := "ytoakoffdjeleoaagreat", sum := "a6873ddd564d703addf431deaa05a15e4861aa92af55bfc6dce12736adabb5f0", func := "boundstone/boundstonelaw07.CreditJudges", spec := "creditJudges", unfollowed := true, recurses := true, apart := false, narrowed := true }
def CreditJudgesUptoSaid : Prop := creditJudgesUptoRow.holds Tryz.pinned (OpenSpec.upto creditJudgesSpec)

/-- 'boundstonelaw07.CreditNames', WHERE WHAT IT READS IS OF BULK AT MOST 1048576: true; the input reads as it did. -/
def creditNamesUptoRow : OpenClaim := { program := "ytoakoffdjeleoaagreat", sum := "a6873ddd564d703addf431deaa05a15e4861aa92af55bfc6dce12736adabb5f0", func := "boundstone/boundstonelaw07.CreditNames", spec := "creditNames", unfollowed := true, recurses := true, apart := false, narrowed := true }
def CreditNamesUptoSaid : Prop := creditNamesUptoRow.holds Tryz.pinned (OpenSpec.upto creditNamesSpec)

/-- 'boundstonelaw07.CreditFinds', WHERE WHAT IT READS IS OF BULK AT MOST 1048576: true; the input reads as it did. -/
def creditFindsUptoRow : OpenClaim := { program := "ytoakoffdjeleoaagreat", sum := "a6873ddd564d703addf431deaa05a15e4861aa92af55bfc6dce12736adabb5f0", func := "boundstone/boundstonelaw07.CreditFinds", spec := "creditFinds", unfollowed := true, recurses := true, apart := false, narrowed := true }
def CreditFindsUptoSaid : Prop := creditFindsUptoRow.holds Tryz.pinned (OpenSpec.upto creditFindsSpec)

/-- 'boundstonelaw07.CreditFamilies', WHERE WHAT IT READS IS OF BULK AT MOST 1048576: true; the input reads as it did. -/
def creditFamiliesUptoRow : OpenClaim := { program := "ytoakoffdjeleoaagreat", sum := "a6873ddd564d703addf431deaa05a15e4861aa92af55bfc6dce12736adabb5f0", func := "boundstone/boundstonelaw07.CreditFamilies", spec := "creditFamilies", unfollowed := true, recurses := true, apart := false, narrowed := true }
def CreditFamiliesUptoSaid : Prop := creditFamiliesUptoRow.holds Tryz.pinned (OpenSpec.upto creditFamiliesSpec)

/-- 'boundstonelaw07.CreditHits', WHERE WHAT IT READS IS OF BULK AT MOST 1048576: true; the input reads as it did. -/
def creditHitsUptoRow : OpenClaim := { program := "ytoakoffdjeleoaagreat", sum := "a6873ddd564d703addf431deaa05a15e4861aa92af55bfc6dce12736adabb5f0", func := "boundstone/boundstonelaw07.CreditHits", spec := "creditHits", unfollowed := true, recurses := true, apart := false, narrowed := true }
def CreditHitsUptoSaid : Prop := creditHitsUptoRow.holds Tryz.pinned (OpenSpec.upto creditHitsSpec)

/-- 'boundstonelaw07.CreditPrices', WHERE WHAT IT READS IS OF BULK AT MOST 1048576: true; the input reads as it did. -/
def creditPricesUptoRow : OpenClaim := { program := "ytoakoffdjeleoaagreat", sum := "a6873ddd564d703addf431deaa05a15e4861aa92af55bfc6dce12736adabb5f0", func := "boundstone/boundstonelaw07.CreditPrices", spec := "creditPrices", unfollowed := true, recurses := true, apart := false, narrowed := true }
def CreditPricesUptoSaid : Prop := creditPricesUptoRow.holds Tryz.pinned (OpenSpec.upto creditPricesSpec)

/-- 'boundstonelaw07.CreditRecords', WHERE WHAT IT READS IS OF BULK AT MOST 1048576: true; the input reads as it did. -/
def creditRecordsUptoRow : OpenClaim := { program := "ytoakoffdjeleoaagreat", sum := "a6873ddd564d703addf431deaa05a15e4861aa92af55bfc6dce12736adabb5f0", func := "boundstone/boundstonelaw07.CreditRecords", spec := "creditRecords", unfollowed := true, recurses := true, apart := false, narrowed := true }
def CreditRecordsUptoSaid : Prop := creditRecordsUptoRow.holds Tryz.pinned (OpenSpec.upto creditRecordsSpec)

/-- 'boundstonelaw07.CreditWeighs', WHERE WHAT IT READS IS OF BULK AT MOST 1048576: true; the input reads as it did. -/
def creditWeighsUptoRow : OpenClaim := { program := "ytoakoffdjeleoaagreat", sum := "a6873ddd564d703addf431deaa05a15e4861aa92af55bfc6dce12736adabb5f0", func := "boundstone/boundstonelaw07.CreditWeighs", spec := "creditWeighs", unfollowed := true, recurses := true, apart := false, narrowed := true }
def CreditWeighsUptoSaid : Prop := creditWeighsUptoRow.holds Tryz.pinned (OpenSpec.upto creditWeighsSpec)

/-- 'boundstonelaw07.CreditIsTrue', WHERE WHAT IT READS IS OF BULK AT MOST 1048576: true; the input reads as it did. -/
def creditIsTrueUptoRow : OpenClaim := { program := "ytoakoffdjeleoaagreat", sum := "a6873ddd564d703addf431deaa05a15e4861aa92af55bfc6dce12736adabb5f0", func := "boundstone/boundstonelaw07.CreditIsTrue", spec := "creditIsTrue", unfollowed := true, recurses := true, apart := false, narrowed := true }
def CreditIsTrueUptoSaid : Prop := creditIsTrueUptoRow.holds Tryz.pinned (OpenSpec.upto creditIsTrueSpec)

/-- 'boundstonelaw07.CreditDual', WHERE WHAT IT READS IS OF BULK AT MOST 1048576: true; the input reads as it did. -/
def creditDualUptoRow : OpenClaim := { program := "ytoakoffdjeleoaagreat", sum := "a6873ddd564d703addf431deaa05a15e4861aa92af55bfc6dce12736adabb5f0", func := "boundstone/boundstonelaw07.CreditDual", spec := "creditDual", unfollowed := true, recurses := true, apart := false, narrowed := true }
def CreditDualUptoSaid : Prop := creditDualUptoRow.holds Tryz.pinned (OpenSpec.upto creditDualSpec)

/-- 'boundstonelaw07.CreditGrows', WHERE WHAT IT READS IS OF BULK AT MOST 1048576: true; the input reads as it did. -/
def creditGrowsUptoRow : OpenClaim := { program := "ytoakoffdjeleoaagreat", sum := "a6873ddd564d703addf431deaa05a15e4861aa92af55bfc6dce12736adabb5f0", func := "boundstone/boundstonelaw07.CreditGrows", spec := "creditGrows", unfollowed := true, recurses := true, apart := false, narrowed := true }
def CreditGrowsUptoSaid : Prop := creditGrowsUptoRow.holds Tryz.pinned (OpenSpec.upto creditGrowsSpec)

/-- 'boundstonelaw07.CreditEdits', WHERE WHAT IT READS IS OF BULK AT MOST 1048576: true; the input reads as it did. -/
def creditEditsUptoRow : OpenClaim := { program := "ytoakoffdjeleoaagreat", sum := "a6873ddd564d703addf431deaa05a15e4861aa92af55bfc6dce12736adabb5f0", func := "boundstone/boundstonelaw07.CreditEdits", spec := "creditEdits", unfollowed := true, recurses := true, apart := false, narrowed := true }
def CreditEditsUptoSaid : Prop := creditEditsUptoRow.holds Tryz.pinned (OpenSpec.upto creditEditsSpec)

/-- 'boundstonelaw07.CreditProves', WHERE WHAT IT READS IS OF BULK AT MOST 1048576: true; the input reads as it did. -/
def creditProvesUptoRow : OpenClaim := { program := "ytoakoffdjeleoaagreat", sum := "a6873ddd564d703addf431deaa05a15e4861aa92af55bfc6dce12736adabb5f0", func := "boundstone/boundstonelaw07.CreditProves", spec := "creditProves", unfollowed := true, recurses := true, apart := false, narrowed := true }
def CreditProvesUptoSaid : Prop := creditProvesUptoRow.holds Tryz.pinned (OpenSpec.upto creditProvesSpec)

/-- 'boundstonelaw07.CreditAccounts', WHERE WHAT IT READS IS OF BULK AT MOST 1048576: true; the input reads as it did. -/
def creditAccountsUptoRow : OpenClaim := { program := "ytoakoffdjeleoaagreat", sum := "a6873ddd564d703addf431deaa05a15e4861aa92af55bfc6dce12736adabb5f0", func := "boundstone/boundstonelaw07.CreditAccounts", spec := "creditAccounts", unfollowed := true, recurses := true, apart := false, narrowed := true }
def CreditAccountsUptoSaid : Prop := creditAccountsUptoRow.holds Tryz.pinned (OpenSpec.upto creditAccountsSpec)

/-- 'boundstonelaw07.CreditTampers', WHERE WHAT IT READS IS OF BULK AT MOST 1048576: true; the input reads as it did. -/
def creditTampersUptoRow : OpenClaim := { program := "ytoakoffdjeleoaagreat", sum := "a6873ddd564d703addf431deaa05a15e4861aa92af55bfc6dce12736adabb5f0", func := "boundstone/boundstonelaw07.CreditTampers", spec := "creditTampers", unfollowed := true, recurses := true, apart := false, narrowed := true }
def CreditTampersUptoSaid : Prop := creditTampersUptoRow.holds Tryz.pinned (OpenSpec.upto creditTampersSpec)

/-- 'boundstonelaw07.CreditIsRight', WHERE WHAT IT READS IS OF BULK AT MOST 1048576: true; the input reads as it did. -/
def creditIsRightUptoRow : OpenClaim := { program := "ytoakoffdjeleoaagreat", sum := "a6873ddd564d703addf431deaa05a15e4861aa92af55bfc6dce12736adabb5f0", func := "boundstone/boundstonelaw07.CreditIsRight", spec := "creditIsRight", unfollowed := true, recurses := true, apart := false, narrowed := true }
def CreditIsRightUptoSaid : Prop := creditIsRightUptoRow.holds Tryz.pinned (OpenSpec.upto creditIsRightSpec)

end Rows
end Go.Proofs.YtoakoffdjeleoaaGreat
