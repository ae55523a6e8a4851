/-
  NARROWER THAN 'FOR EVERY INPUT', by the rows' own cells (each row's printed sentence says how): KeepHappens: laid · KeepCuts: laid · KeepGoes: laid · KeepTells: laid · LedgerPrefix: laid.
  DERIVED. THE GIVEN ROWS OF THIS SEAT. 5 by the template 'for every input the law returns true; each argument reads behind the call as it read before'; 0 by the template 'total and deterministic' (their statements: YtfaedenbhlgnpaaGreatDoorTotals.lean).
  GIVEN WITH THE SEED: the statements are not yours to turn. If you find one false, say at which input.
  Laid BY PROGRAM, IN A SANDBOX (cutbox-rows.mjs): the forced cells as the released guide's own fill.sh prints them over the translation 922f50698ccf4662… (all of the seat's roots in one cut). By AI agents, Wed Nov 11 2026. No macro, syntax, notation, axiom, sorry.
-/
import Derived.Test.YtfaedenbhlgnpaaGreatDoorChecked
import GoSem.Claim
import GoSem.ClaimJoined
import GoSem.ClaimMapViews
import Derived.JoinedTies
import Derived.KernelRfl
namespace Go.Proofs.YtfaedenbhlgnpaaGreatDoor
/- THE CELL 'sum', in the pinned program and in every row, IS THE sha256 OF THE DUMP (.gsa) THAT YtfaedenbhlgnpaaGreatDoorProg.lean LOADS. Nothing in Lean hashes anything: it is a label: what it is worth is what the hold of that sum in a sandbox is worth. -/
noncomputable def Tryz.pinned : Pinned := { name := "ytfaedenbhlgnpaagreatdoor", sum := "922f50698ccf46622ea5c80f5b5bf0d018a6337c441cf4d89c09ede4d97fd94d", checked := Tryz.checked }
namespace Rows
def none {H : Type} : Left H := { results := [], args := [] }

/- WHAT THE LISTED PACKAGE-LEVEL VARIABLES READ AS WHEN THE CALL BEGINS. Each datum BY PROGRAM (the guide's laid-datum.mjs) off the statement by which the dump's own 'gosem.cut.vars' lays the variable. In a bare row this is a premise. The card (YtfaedenbhlgnpaaGreatDoorCards.lean) ties it to the program's text. -/
def laid_rubrick_utf_letters {H : Type} : DataW H := .agg [.agg [.lit (.int .i64 65), .lit (.int .i64 90)], .agg [.lit (.int .i64 97), .lit (.int .i64 122)], .agg [.lit (.int .i64 192), .lit (.int .i64 214)], .agg [.lit (.int .i64 216), .lit (.int .i64 246)], .agg [.lit (.int .i64 248), .lit (.int .i64 255)], .agg [.lit (.int .i64 913), .lit (.int .i64 929)], .agg [.lit (.int .i64 931), .lit (.int .i64 937)], .agg [.lit (.int .i64 945), .lit (.int .i64 969)], .agg [.lit (.int .i64 1024), .lit (.int .i64 1119)]]
def laid_rubrick_utf_shifts {H : Type} : DataW H := .agg [.agg [.lit (.int .i64 65), .lit (.int .i64 90), .lit (.int .i64 32)], .agg [.lit (.int .i64 192), .lit (.int .i64 214), .lit (.int .i64 32)], .agg [.lit (.int .i64 216), .lit (.int .i64 222), .lit (.int .i64 32)], .agg [.lit (.int .i64 913), .lit (.int .i64 929), .lit (.int .i64 32)], .agg [.lit (.int .i64 931), .lit (.int .i64 937), .lit (.int .i64 32)], .agg [.lit (.int .i64 1024), .lit (.int .i64 1039), .lit (.int .i64 80)], .agg [.lit (.int .i64 1040), .lit (.int .i64 1071), .lit (.int .i64 32)]]

/-- 'rubricklaw23.KeepHappens': WHATEVER THE INPUT: true; the input reads as it did. -/
def keepHappensSpec : ChangeSpec := { name := "keepHappens", fn := fun _ => fun
  | [d1, d2] => { results := [.lit (.bool true)], args := [d1, d2] }
  | _ => none }
def keepHappensRow : OpenClaim := { program := "ytfaedenbhlgnpaagreatdoor", sum := "922f50698ccf46622ea5c80f5b5bf0d018a6337c441cf4d89c09ede4d97fd94d", func := "rubrick/rubricklaw23.KeepHappens", spec := "keepHappens", inPlace := ["internal/bytealg.MakeNoZero"], unfollowed := true, recurses := true, named := ["rubrick/utf.letters", "rubrick/utf.shifts"], apart := false, laid := [("rubrick/utf.letters", laid_rubrick_utf_letters), ("rubrick/utf.shifts", laid_rubrick_utf_shifts)] }
def KeepHappensSaid : Prop := keepHappensRow.holds Tryz.pinned (OpenSpec.ofChange keepHappensSpec)

/-- ITS FALSE NEIGHBOUR: 'it returns false'. Refute it at one input. -/
def keepHappensWrong : ChangeSpec := { name := "keepHappens", fn := fun _ => fun
  | [d1, d2] => { results := [.lit (.bool false)], args := [d1, d2] }
  | _ => none }
def KeepHappensWrongFalsely : Prop := keepHappensRow.holds Tryz.pinned (OpenSpec.ofChange keepHappensWrong)

/-- 'rubricklaw23.KeepCuts': WHATEVER THE INPUT: true; the input reads as it did. -/
def keepCutsSpec : ChangeSpec := { name := "keepCuts", fn := fun _ => fun
  | [d1, d2, d3, d4, d5, d6] => { results := [.lit (.bool true)], args := [d1, d2, d3, d4, d5, d6] }
  | _ => none }
def keepCutsRow : OpenClaim := { program := "ytfaedenbhlgnpaagreatdoor", sum := "922f50698ccf46622ea5c80f5b5bf0d018a6337c441cf4d89c09ede4d97fd94d", func := "rubrick/rubricklaw23.KeepCuts", spec := "keepCuts", inPlace := ["internal/bytealg.MakeNoZero"], unfollowed := true, recurses := true, named := ["rubrick/utf.letters", "rubrick/utf.shifts"], apart := false, laid := [("rubrick/utf.letters", laid_rubrick_utf_letters), ("rubrick/utf.shifts", laid_rubrick_utf_shifts)] }
def KeepCutsSaid : Prop := keepCutsRow.holds Tryz.pinned (OpenSpec.ofChange keepCutsSpec)

/-- ITS FALSE NEIGHBOUR: 'it returns false'. Refute it at one input. -/
def keepCutsWrong : ChangeSpec := { name := "keepCuts", fn := fun _ => fun
  | [d1, d2, d3, d4, d5, d6] => { results := [.lit (.bool false)], args := [d1, d2, d3, d4, d5, d6] }
  | _ => none }
def KeepCutsWrongFalsely : Prop := keepCutsRow.holds Tryz.pinned (OpenSpec.ofChange keepCutsWrong)

/-- 'rubricklaw23.KeepGoes': WHATEVER THE INPUT: true; the input reads as it did. -/
def keepGoesSpec : ChangeSpec := { name := "keepGoes", fn := fun _ => fun
  | [d1, d2, d3, d4, d5, d6] => { results := [.lit (.bool true)], args := [d1, d2, d3, d4, d5, d6] }
  | _ => none }
def keepGoesRow : OpenClaim := { program := "ytfaedenbhlgnpaagreatdoor", sum := "922f50698ccf46622ea5c80f5b5bf0d018a6337c441cf4d89c09ede4d97fd94d", func := "rubrick/rubricklaw23.KeepGoes", spec := "keepGoes", inPlace := ["internal/bytealg.MakeNoZero"], unfollowed := true, recurses := true, named := ["rubrick/utf.letters", "rubrick/utf.shifts"], apart := false, laid := [("rubrick/utf.letters", laid_rubrick_utf_letters), ("rubrick/utf.shifts", laid_rubrick_utf_shifts)] }
def KeepGoesSaid : Prop := keepGoesRow.holds Tryz.pinned (OpenSpec.ofChange keepGoesSpec)

/-- ITS FALSE NEIGHBOUR: 'it returns false'. Refute it at one input. -/
def keepGoesWrong : ChangeSpec := { name := "keepGoes", fn := fun _ => fun
  | [d1, d2, d3, d4, d5, d6] => { results := [.lit (.bool false)], args := [d1, d2, d3, d4, d5, d6] }
  | _ => none }
def KeepGoesWrongFalsely : Prop := keepGoesRow.holds Tryz.pinned (OpenSpec.ofChange keepGoesWrong)

/-- 'rubricklaw23.KeepTells': WHATEVER THE INPUT: true; the input reads as it did. -/
def keepTellsSpec : ChangeSpec := { name := "keepTells", fn := fun _ => fun
  | [d] => { results := [.lit (.bool true)], args := [d] }
  | _ => none }
def keepTellsRow : OpenClaim := { program := "ytfaedenbhlgnpaagreatdoor", sum := "922f50698ccf46622ea5c80f5b5bf0d018a6337c441cf4d89c09ede4d97fd94d", func := "rubrick/rubricklaw23.KeepTells", spec := "keepTells", inPlace := ["internal/bytealg.MakeNoZero"], unfollowed := true, recurses := true, named := ["rubrick/utf.letters", "rubrick/utf.shifts"], apart := false, laid := [("rubrick/utf.letters", laid_rubrick_utf_letters), ("rubrick/utf.shifts", laid_rubrick_utf_shifts)] }
def KeepTellsSaid : Prop := keepTellsRow.holds Tryz.pinned (OpenSpec.ofChange keepTellsSpec)

/-- ITS FALSE NEIGHBOUR: 'it returns false'. Refute it at one input. -/
def keepTellsWrong : ChangeSpec := { name := "keepTells", fn := fun _ => fun
  | [d] => { results := [.lit (.bool false)], args := [d] }
  | _ => none }
def KeepTellsWrongFalsely : Prop := keepTellsRow.holds Tryz.pinned (OpenSpec.ofChange keepTellsWrong)

/-- 'rubricklaw24.LedgerPrefix': WHATEVER THE INPUT: true; the input reads as it did. -/
def ledgerPrefixSpec : ChangeSpec := { name := "ledgerPrefix", fn := fun _ => fun
  | [d1, d2, d3] => { results := [.lit (.bool true)], args := [d1, d2, d3] }
  | _ => none }
def ledgerPrefixRow : OpenClaim := { program := "ytfaedenbhlgnpaagreatdoor", sum := "922f50698ccf46622ea5c80f5b5bf0d018a6337c441cf4d89c09ede4d97fd94d", func := "rubrick/rubricklaw24.LedgerPrefix", spec := "ledgerPrefix", inPlace := ["internal/bytealg.MakeNoZero"], unfollowed := true, recurses := true, named := ["rubrick/utf.letters", "rubrick/utf.shifts"], apart := false, laid := [("rubrick/utf.letters", laid_rubrick_utf_letters), ("rubrick/utf.shifts", laid_rubrick_utf_shifts)] }
def LedgerPrefixSaid : Prop := ledgerPrefixRow.holds Tryz.pinned (OpenSpec.ofChange ledgerPrefixSpec)

/-- ITS FALSE NEIGHBOUR: 'it returns false'. Refute it at one input. -/
def ledgerPrefixWrong : ChangeSpec := { name := "ledgerPrefix", fn := fun _ => fun
  | [d1, d2, d3] => { results := [.lit (.bool false)], args := [d1, d2, d3] }
  | _ => none }
def LedgerPrefixWrongFalsely : Prop := ledgerPrefixRow.holds Tryz.pinned (OpenSpec.ofChange ledgerPrefixWrong)

/- THE SECOND FORM. 'bulk': how many values and letters a reading holds, each counted each time it is reached (what is shared counts as often as it is met; a slice's spare places count too). A statement '..UptoSaid' is the law's where the arguments, and the package variables that the reading takes, are together of bulk at most 1048576: NARROWER than '..Said'. Prove '..Said' where nothing that the law and all that it calls make is longer than what came in: it says more and counts as full. Else prove '..UptoSaid'. A law counts once. -/
mutual
def uptoBulk {H : Type} : DataW H → Nat
  | .lit (.string bytes) => bytes.length + 1
  | .lit _ => 1
  | .nil => 1
  | .ptr d => uptoBulk d + 1
  | .slice elems spare => uptoBulkAll elems + uptoBulkAll spare + 1
  | .agg parts => uptoBulkAll parts + 1
  | .iface _ d => uptoBulk d + 1
  | .map entries => uptoBulkEntries entries + 1
  | .held _ => 1
def uptoBulkAll {H : Type} : List (DataW H) → Nat
  | [] => 0
  | d :: r => uptoBulk d + uptoBulkAll r
def uptoBulkEntries {H : Type} : List (Lit × DataW H) → Nat
  | [] => 0
  | x :: r => uptoBulkEntry x + uptoBulkEntries r
def uptoBulkEntry {H : Type} : Lit × DataW H → Nat
  | (.string bytes, d) => bytes.length + uptoBulk d + 1
  | (_, d) => uptoBulk d + 1
 end
def uptoSmall : (H : Type) → List (DataW H) → Bool := fun _ ds => decide (uptoBulkAll ds ≤ 1048576)
def OpenSpec.upto (s : _root_.Go.ChangeSpec) : _root_.Go.OpenSpec := { _root_.Go.OpenSpec.ofChange s with cond := some uptoSmall }

/-- 'rubricklaw23.KeepHappens', WHERE WHAT IT READS IS OF BULK AT MOST 1048576: true; the input reads as it did. -/
def keepHappensUptoRow : OpenClaim := { program := "ytfaedenbhlgnpaagreatdoor", sum := "922f50698ccf46622ea5c80f5b5bf0d018a6337c441cf4d89c09ede4d97fd94d", func := "rubrick/rubricklaw23.KeepHappens", spec := "keepHappens", inPlace := ["internal/bytealg.MakeNoZero"], unfollowed := true, recurses := true, named := ["rubrick/utf.letters", "rubrick/utf.shifts"], apart := false, laid := [("rubrick/utf.letters", laid_rubrick_utf_letters), ("rubrick/utf.shifts", laid_rubrick_utf_shifts)], narrowed := true }
def KeepHappensUptoSaid : Prop := keepHappensUptoRow.holds Tryz.pinned (OpenSpec.upto keepHappensSpec)

/-- 'rubricklaw23.KeepCuts', WHERE WHAT IT READS IS OF BULK AT MOST 1048576: true; the input reads as it did. -/
def keepCutsUptoRow : OpenClaim := { program := "ytfaedenbhlgnpaagreatdoor", sum := "922f50698ccf46622ea5c80f5b5bf0d018a6337c441cf4d89c09ede4d97fd94d", func := "rubrick/rubricklaw23.KeepCuts", spec := "keepCuts", inPlace := ["internal/bytealg.MakeNoZero"], unfollowed := true, recurses := true, named := ["rubrick/utf.letters", "rubrick/utf.shifts"], apart := false, laid := [("rubrick/utf.letters", laid_rubrick_utf_letters), ("rubrick/utf.shifts", laid_rubrick_utf_shifts)], narrowed := true }
def KeepCutsUptoSaid : Prop := keepCutsUptoRow.holds Tryz.pinned (OpenSpec.upto keepCutsSpec)

/-- 'rubricklaw23.KeepGoes', WHERE WHAT IT READS IS OF BULK AT MOST 1048576: true; the input reads as it did. -/
def keepGoesUptoRow : OpenClaim := { program := "ytfaedenbhlgnpaagreatdoor", sum := "922f50698ccf46622ea5c80f5b5bf0d018a6337c441cf4d89c09ede4d97fd94d", func := "rubrick/rubricklaw23.KeepGoes", spec := "keepGoes", inPlace := ["internal/bytealg.MakeNoZero"], unfollowed := true, recurses := true, named := ["rubrick/utf.letters", "rubrick/utf.shifts"], apart := false, laid := [("rubrick/utf.letters", laid_rubrick_utf_letters), ("rubrick/utf.shifts", laid_rubrick_utf_shifts)], narrowed := true }
def KeepGoesUptoSaid : Prop := keepGoesUptoRow.holds Tryz.pinned (OpenSpec.upto keepGoesSpec)

/-- 'rubricklaw23.KeepTells', WHERE WHAT IT READS IS OF BULK AT MOST 1048576: true; the input reads as it did. -/
def keepTellsUptoRow : OpenClaim := { program := "ytfaedenbhlgnpaagreatdoor", sum := "922f50698ccf46622ea5c80f5b5bf0d018a6337c441cf4d89c09ede4d97fd94d", func := "rubrick/rubricklaw23.KeepTells", spec := "keepTells", inPlace := ["internal/bytealg.MakeNoZero"], unfollowed := true, recurses := true, named := ["rubrick/utf.letters", "rubrick/utf.shifts"], apart := false, laid := [("rubrick/utf.letters", laid_rubrick_utf_letters), ("rubrick/utf.shifts", laid_rubrick_utf_shifts)], narrowed := true }
def KeepTellsUptoSaid : Prop := keepTellsUptoRow.holds Tryz.pinned (OpenSpec.upto keepTellsSpec)

/-- 'rubricklaw24.LedgerPrefix', WHERE WHAT IT READS IS OF BULK AT MOST 1048576: true; the input reads as it did. -/
def ledgerPrefixUptoRow : OpenClaim := { program := "ytfaedenbhlgnpaagreatdoor", sum := "922f50698ccf46622ea5c80f5b5bf0d018a6337c441cf4d89c09ede4d97fd94d", func := "rubrick/rubricklaw24.LedgerPrefix", spec := "ledgerPrefix", inPlace := ["internal/bytealg.MakeNoZero"], unfollowed := true, recurses := true, named := ["rubrick/utf.letters", "rubrick/utf.shifts"], apart := false, laid := [("rubrick/utf.letters", laid_rubrick_utf_letters), ("rubrick/utf.shifts", laid_rubrick_utf_shifts)], narrowed := true }
def LedgerPrefixUptoSaid : Prop := ledgerPrefixUptoRow.holds Tryz.pinned (OpenSpec.upto ledgerPrefixSpec)

end Rows
end Go.Proofs.YtfaedenbhlgnpaaGreatDoor
