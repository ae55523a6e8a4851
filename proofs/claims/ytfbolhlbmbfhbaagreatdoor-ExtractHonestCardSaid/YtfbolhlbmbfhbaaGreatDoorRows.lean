/-
  NARROWER THAN 'FOR EVERY INPUT', by the rows' own cells (each row's printed sentence says how): ExtractSound: laid · ExtractPages: laid · ExtractTells: laid · ExtractSteps: laid · ExtractHonest: laid.
  DERIVED. THE GIVEN ROWS OF THIS SEAT. 5 by the template 'for every input the law returns true; each argument reads behind the call as it read before'; 0 by the template 'total and deterministic' (their statements: YtfbolhlbmbfhbaaGreatDoorTotals.lean).
  GIVEN WITH THE SEED: the statements are not yours to turn. If you find one false, say at which input.
  Laid BY PROGRAM, IN A SANDBOX (cutbox-rows.mjs): the forced cells as the released guide's own fill.sh prints them over the translation 74fa32e6dc894b87… (all of the seat's roots in one cut). By AI agents, Wed Nov 11 2026. No macro, syntax, notation, axiom, sorry.
-/
import Derived.Test.YtfbolhlbmbfhbaaGreatDoorChecked
import GoSem.Claim
import GoSem.ClaimJoined
import GoSem.ClaimMapViews
import Derived.JoinedTies
import Derived.KernelRfl
namespace Go.Proofs.YtfbolhlbmbfhbaaGreatDoor
/- THE CELL 'sum', in the pinned program and in every row, IS THE sha256 OF THE DUMP (.gsa) THAT YtfbolhlbmbfhbaaGreatDoorProg.lean LOADS. Nothing in Lean hashes anything: it is a label: what it is worth is what the hold of that sum in a sandbox is worth. -/
noncomputable def Tryz.pinned : Pinned := { name := "ytfbolhlbmbfhbaagreatdoor", sum := "74fa32e6dc894b87a1f18e2559fe19639a045a5f20cf55e1e7a9dde96b1d29c2", checked := Tryz.checked }
namespace Rows
def none {H : Type} : Left H := { results := [], args := [] }

/- WHAT THE LISTED PACKAGE-LEVEL VARIABLES READ AS WHEN THE CALL BEGINS. Each datum BY PROGRAM (the guide's laid-datum.mjs) off the statement by which the dump's own 'gosem.cut.vars' lays the variable. In a bare row this is a premise. The card (YtfbolhlbmbfhbaaGreatDoorCards.lean) ties it to the program's text. -/
def laid_rubrick_sha_begin {H : Type} : DataW H := .agg [.lit (.int .u32 1779033703), .lit (.int .u32 3144134277), .lit (.int .u32 1013904242), .lit (.int .u32 2773480762), .lit (.int .u32 1359893119), .lit (.int .u32 2600822924), .lit (.int .u32 528734635), .lit (.int .u32 1541459225)]
def laid_rubrick_sha_rounds {H : Type} : DataW H := .agg [.lit (.int .u32 1116352408), .lit (.int .u32 1899447441), .lit (.int .u32 3049323471), .lit (.int .u32 3921009573), .lit (.int .u32 961987163), .lit (.int .u32 1508970993), .lit (.int .u32 2453635748), .lit (.int .u32 2870763221), .lit (.int .u32 3624381080), .lit (.int .u32 310598401), .lit (.int .u32 607225278), .lit (.int .u32 1426881987), .lit (.int .u32 1925078388), .lit (.int .u32 2162078206), .lit (.int .u32 2614888103), .lit (.int .u32 3248222580), .lit (.int .u32 3835390401), .lit (.int .u32 4022224774), .lit (.int .u32 264347078), .lit (.int .u32 604807628), .lit (.int .u32 770255983), .lit (.int .u32 1249150122), .lit (.int .u32 1555081692), .lit (.int .u32 1996064986), .lit (.int .u32 2554220882), .lit (.int .u32 2821834349), .lit (.int .u32 2952996808), .lit (.int .u32 3210313671), .lit (.int .u32 3336571891), .lit (.int .u32 3584528711), .lit (.int .u32 113926993), .lit (.int .u32 338241895), .lit (.int .u32 666307205), .lit (.int .u32 773529912), .lit (.int .u32 1294757372), .lit (.int .u32 1396182291), .lit (.int .u32 1695183700), .lit (.int .u32 1986661051), .lit (.int .u32 2177026350), .lit (.int .u32 2456956037), .lit (.int .u32 2730485921), .lit (.int .u32 2820302411), .lit (.int .u32 3259730800), .lit (.int .u32 3345764771), .lit (.int .u32 3516065817), .lit (.int .u32 3600352804), .lit (.int .u32 4094571909), .lit (.int .u32 275423344), .lit (.int .u32 430227734), .lit (.int .u32 506948616), .lit (.int .u32 659060556), .lit (.int .u32 883997877), .lit (.int .u32 958139571), .lit (.int .u32 1322822218), .lit (.int .u32 1537002063), .lit (.int .u32 1747873779), .lit (.int .u32 1955562222), .lit (.int .u32 2024104815), .lit (.int .u32 2227730452), .lit (.int .u32 2361852424), .lit (.int .u32 2428436474), .lit (.int .u32 2756734187), .lit (.int .u32 3204031479), .lit (.int .u32 3329325298)]
def laid_rubrick_utf_letters {H : Type} : DataW H := .agg [.agg [.lit (.int .i64 65), .lit (.int .i64 90)], .agg [.lit (.int .i64 97), .lit (.int .i64 122)], .agg [.lit (.int .i64 192), .lit (.int .i64 214)], .agg [.lit (.int .i64 216), .lit (.int .i64 246)], .agg [.lit (.int .i64 248), .lit (.int .i64 255)], .agg [.lit (.int .i64 913), .lit (.int .i64 929)], .agg [.lit (.int .i64 931), .lit (.int .i64 937)], .agg [.lit (.int .i64 945), .lit (.int .i64 969)], .agg [.lit (.int .i64 1024), .lit (.int .i64 1119)]]
def laid_rubrick_utf_shifts {H : Type} : DataW H := .agg [.agg [.lit (.int .i64 65), .lit (.int .i64 90), .lit (.int .i64 32)], .agg [.lit (.int .i64 192), .lit (.int .i64 214), .lit (.int .i64 32)], .agg [.lit (.int .i64 216), .lit (.int .i64 222), .lit (.int .i64 32)], .agg [.lit (.int .i64 913), .lit (.int .i64 929), .lit (.int .i64 32)], .agg [.lit (.int .i64 931), .lit (.int .i64 937), .lit (.int .i64 32)], .agg [.lit (.int .i64 1024), .lit (.int .i64 1039), .lit (.int .i64 80)], .agg [.lit (.int .i64 1040), .lit (.int .i64 1071), .lit (.int .i64 32)]]

/-- 'rubricklaw21.ExtractSound': WHATEVER THE INPUT: true; the input reads as it did. -/
def extractSoundSpec : ChangeSpec := { name := "extractSound", fn := fun _ => fun
  | [d1, d2, d3] => { results := [.lit (.bool true)], args := [d1, d2, d3] }
  | _ => none }
def extractSoundRow : OpenClaim := { program := "ytfbolhlbmbfhbaagreatdoor", sum := "74fa32e6dc894b87a1f18e2559fe19639a045a5f20cf55e1e7a9dde96b1d29c2", func := "rubrick/rubricklaw21.ExtractSound", spec := "extractSound", unfollowed := true, recurses := true, named := ["rubrick/utf.letters", "rubrick/utf.shifts", "rubrick/sha.begin", "rubrick/sha.rounds"], apart := false, laid := [("rubrick/sha.begin", laid_rubrick_sha_begin), ("rubrick/sha.rounds", laid_rubrick_sha_rounds), ("rubrick/utf.letters", laid_rubrick_utf_letters), ("rubrick/utf.shifts", laid_rubrick_utf_shifts)] }
def ExtractSoundSaid : Prop := extractSoundRow.holds Tryz.pinned (OpenSpec.ofChange extractSoundSpec)

/-- ITS FALSE NEIGHBOUR: 'it returns false'. Refute it at one input. -/
def extractSoundWrong : ChangeSpec := { name := "extractSound", fn := fun _ => fun
  | [d1, d2, d3] => { results := [.lit (.bool false)], args := [d1, d2, d3] }
  | _ => none }
def ExtractSoundWrongFalsely : Prop := extractSoundRow.holds Tryz.pinned (OpenSpec.ofChange extractSoundWrong)

/-- 'rubricklaw21.ExtractPages': WHATEVER THE INPUT: true; the input reads as it did. -/
def extractPagesSpec : ChangeSpec := { name := "extractPages", fn := fun _ => fun
  | [d1, d2, d3] => { results := [.lit (.bool true)], args := [d1, d2, d3] }
  | _ => none }
def extractPagesRow : OpenClaim := { program := "ytfbolhlbmbfhbaagreatdoor", sum := "74fa32e6dc894b87a1f18e2559fe19639a045a5f20cf55e1e7a9dde96b1d29c2", func := "rubrick/rubricklaw21.ExtractPages", spec := "extractPages", unfollowed := true, recurses := true, named := ["rubrick/utf.letters", "rubrick/utf.shifts", "rubrick/sha.begin", "rubrick/sha.rounds"], apart := false, laid := [("rubrick/sha.begin", laid_rubrick_sha_begin), ("rubrick/sha.rounds", laid_rubrick_sha_rounds), ("rubrick/utf.letters", laid_rubrick_utf_letters), ("rubrick/utf.shifts", laid_rubrick_utf_shifts)] }
def ExtractPagesSaid : Prop := extractPagesRow.holds Tryz.pinned (OpenSpec.ofChange extractPagesSpec)

/-- ITS FALSE NEIGHBOUR: 'it returns false'. Refute it at one input. -/
def extractPagesWrong : ChangeSpec := { name := "extractPages", fn := fun _ => fun
  | [d1, d2, d3] => { results := [.lit (.bool false)], args := [d1, d2, d3] }
  | _ => none }
def ExtractPagesWrongFalsely : Prop := extractPagesRow.holds Tryz.pinned (OpenSpec.ofChange extractPagesWrong)

/-- 'rubricklaw21.ExtractTells': WHATEVER THE INPUT: true; the input reads as it did. -/
def extractTellsSpec : ChangeSpec := { name := "extractTells", fn := fun _ => fun
  | [d1, d2, d3, d4, d5] => { results := [.lit (.bool true)], args := [d1, d2, d3, d4, d5] }
  | _ => none }
def extractTellsRow : OpenClaim := { program := "ytfbolhlbmbfhbaagreatdoor", sum := "74fa32e6dc894b87a1f18e2559fe19639a045a5f20cf55e1e7a9dde96b1d29c2", func := "rubrick/rubricklaw21.ExtractTells", spec := "extractTells", unfollowed := true, recurses := true, named := ["rubrick/utf.letters", "rubrick/utf.shifts", "rubrick/sha.begin", "rubrick/sha.rounds"], apart := false, laid := [("rubrick/sha.begin", laid_rubrick_sha_begin), ("rubrick/sha.rounds", laid_rubrick_sha_rounds), ("rubrick/utf.letters", laid_rubrick_utf_letters), ("rubrick/utf.shifts", laid_rubrick_utf_shifts)] }
def ExtractTellsSaid : Prop := extractTellsRow.holds Tryz.pinned (OpenSpec.ofChange extractTellsSpec)

/-- ITS FALSE NEIGHBOUR: 'it returns false'. Refute it at one input. -/
def extractTellsWrong : ChangeSpec := { name := "extractTells", fn := fun _ => fun
  | [d1, d2, d3, d4, d5] => { results := [.lit (.bool false)], args := [d1, d2, d3, d4, d5] }
  | _ => none }
def ExtractTellsWrongFalsely : Prop := extractTellsRow.holds Tryz.pinned (OpenSpec.ofChange extractTellsWrong)

/-- 'rubricklaw21.ExtractSteps': WHATEVER THE INPUT: true; the input reads as it did. -/
def extractStepsSpec : ChangeSpec := { name := "extractSteps", fn := fun _ => fun
  | [d1, d2, d3] => { results := [.lit (.bool true)], args := [d1, d2, d3] }
  | _ => none }
def extractStepsRow : OpenClaim := { program := "ytfbolhlbmbfhbaagreatdoor", sum := "74fa32e6dc894b87a1f18e2559fe19639a045a5f20cf55e1e7a9dde96b1d29c2", func := "rubrick/rubricklaw21.ExtractSteps", spec := "extractSteps", unfollowed := true, recurses := true, named := ["rubrick/utf.letters", "rubrick/utf.shifts", "rubrick/sha.begin", "rubrick/sha.rounds"], apart := false, laid := [("rubrick/sha.begin", laid_rubrick_sha_begin), ("rubrick/sha.rounds", laid_rubrick_sha_rounds), ("rubrick/utf.letters", laid_rubrick_utf_letters), ("rubrick/utf.shifts", laid_rubrick_utf_shifts)] }
def ExtractStepsSaid : Prop := extractStepsRow.holds Tryz.pinned (OpenSpec.ofChange extractStepsSpec)

/-- ITS FALSE NEIGHBOUR: 'it returns false'. Refute it at one input. -/
def extractStepsWrong : ChangeSpec := { name := "extractSteps", fn := fun _ => fun
  | [d1, d2, d3] => { results := [.lit (.bool false)], args := [d1, d2, d3] }
  | _ => none }
def ExtractStepsWrongFalsely : Prop := extractStepsRow.holds Tryz.pinned (OpenSpec.ofChange extractStepsWrong)

/-- 'rubricklaw21.ExtractHonest': WHATEVER THE INPUT: true; the input reads as it did. -/
def extractHonestSpec : ChangeSpec := { name := "extractHonest", fn := fun _ => fun
  | [d1, d2, d3, d4] => { results := [.lit (.bool true)], args := [d1, d2, d3, d4] }
  | _ => none }
def extractHonestRow : OpenClaim := { program := "ytfbolhlbmbfhbaagreatdoor", sum := "74fa32e6dc894b87a1f18e2559fe19639a045a5f20cf55e1e7a9dde96b1d29c2", func := "rubrick/rubricklaw21.ExtractHonest", spec := "extractHonest", unfollowed := true, recurses := true, named := ["rubrick/utf.letters", "rubrick/utf.shifts", "rubrick/sha.begin", "rubrick/sha.rounds"], apart := false, laid := [("rubrick/sha.begin", laid_rubrick_sha_begin), ("rubrick/sha.rounds", laid_rubrick_sha_rounds), ("rubrick/utf.letters", laid_rubrick_utf_letters), ("rubrick/utf.shifts", laid_rubrick_utf_shifts)] }
def ExtractHonestSaid : Prop := extractHonestRow.holds Tryz.pinned (OpenSpec.ofChange extractHonestSpec)

/-- ITS FALSE NEIGHBOUR: 'it returns false'. Refute it at one input. -/
def extractHonestWrong : ChangeSpec := { name := "extractHonest", fn := fun _ => fun
  | [d1, d2, d3, d4] => { results := [.lit (.bool false)], args := [d1, d2, d3, d4] }
  | _ => none }
def ExtractHonestWrongFalsely : Prop := extractHonestRow.holds Tryz.pinned (OpenSpec.ofChange extractHonestWrong)

/- THE SECOND FORM. 'bulk': how many values and letters a reading holds, each counted each time it is reached (what is shared counts as often as it is met; a slice's spare places count too). A statement '..UptoSaid' is the law's where the arguments, and the package variables that the reading takes, are together of bulk at most 1048576: NARROWER than '..Said'. Prove '..Said' where nothing that the law and all that it calls make is longer than what came in: it says more and counts as full. Else prove '..UptoSaid'. A law counts once. -/
mutual
def uptoBulk {H : Type} : DataW H → Nat
  | .lit (.string bytes) => bytes.length + 1
  | .lit _ => 1
  | .nil => 1
  | .ptr d => uptoBulk d + 1
  | .slice elems spare => uptoBulkAll elems + uptoBulkAll spare + 1
  | .agg parts => uptoBulkAll parts + 1
  | .iface _ d => uptoBulk d + 1
  | .map entries => uptoBulkEntries entries + 1
  | .held _ => 1
def uptoBulkAll {H : Type} : List (DataW H) → Nat
  | [] => 0
  | d :: r => uptoBulk d + uptoBulkAll r
def uptoBulkEntries {H : Type} : List (Lit × DataW H) → Nat
  | [] => 0
  | x :: r => uptoBulkEntry x + uptoBulkEntries r
def uptoBulkEntry {H : Type} : Lit × DataW H → Nat
  | (.string bytes, d) => bytes.length + uptoBulk d + 1
  | (_, d) => uptoBulk d + 1
 end
def uptoSmall : (H : Type) → List (DataW H) → Bool := fun _ ds => decide (uptoBulkAll ds ≤ 1048576)
def OpenSpec.upto (s : _root_.Go.ChangeSpec) : _root_.Go.OpenSpec := { _root_.Go.OpenSpec.ofChange s with cond := some uptoSmall }

/-- 'rubricklaw21.ExtractSound', WHERE WHAT IT READS IS OF BULK AT MOST 1048576: true; the input reads as it did. -/
def extractSoundUptoRow : OpenClaim := { program := "ytfbolhlbmbfhbaagreatdoor", sum := "74fa32e6dc894b87a1f18e2559fe19639a045a5f20cf55e1e7a9dde96b1d29c2", func := "rubrick/rubricklaw21.ExtractSound", spec := "extractSound", unfollowed := true, recurses := true, named := ["rubrick/utf.letters", "rubrick/utf.shifts", "rubrick/sha.begin", "rubrick/sha.rounds"], apart := false, laid := [("rubrick/sha.begin", laid_rubrick_sha_begin), ("rubrick/sha.rounds", laid_rubrick_sha_rounds), ("rubrick/utf.letters", laid_rubrick_utf_letters), ("rubrick/utf.shifts", laid_rubrick_utf_shifts)], narrowed := true }
def ExtractSoundUptoSaid : Prop := extractSoundUptoRow.holds Tryz.pinned (OpenSpec.upto extractSoundSpec)

/-- 'rubricklaw21.ExtractPages', WHERE WHAT IT READS IS OF BULK AT MOST 1048576: true; the input reads as it did. -/
def extractPagesUptoRow : OpenClaim := { program := "ytfbolhlbmbfhbaagreatdoor", sum := "74fa32e6dc894b87a1f18e2559fe19639a045a5f20cf55e1e7a9dde96b1d29c2", func := "rubrick/rubricklaw21.ExtractPages", spec := "extractPages", unfollowed := true, recurses := true, named := ["rubrick/utf.letters", "rubrick/utf.shifts", "rubrick/sha.begin", "rubrick/sha.rounds"], apart := false, laid := [("rubrick/sha.begin", laid_rubrick_sha_begin), ("rubrick/sha.rounds", laid_rubrick_sha_rounds), ("rubrick/utf.letters", laid_rubrick_utf_letters), ("rubrick/utf.shifts", laid_rubrick_utf_shifts)], narrowed := true }
def ExtractPagesUptoSaid : Prop := extractPagesUptoRow.holds Tryz.pinned (OpenSpec.upto extractPagesSpec)

/-- 'rubricklaw21.ExtractTells', WHERE WHAT IT READS IS OF BULK AT MOST 1048576: true; the input reads as it did. -/
def extractTellsUptoRow : OpenClaim := { program := "ytfbolhlbmbfhbaagreatdoor", sum := "74fa32e6dc894b87a1f18e2559fe19639a045a5f20cf55e1e7a9dde96b1d29c2", func := "rubrick/rubricklaw21.ExtractTells", spec := "extractTells", unfollowed := true, recurses := true, named := ["rubrick/utf.letters", "rubrick/utf.shifts", "rubrick/sha.begin", "rubrick/sha.rounds"], apart := false, laid := [("rubrick/sha.begin", laid_rubrick_sha_begin), ("rubrick/sha.rounds", laid_rubrick_sha_rounds), ("rubrick/utf.letters", laid_rubrick_utf_letters), ("rubrick/utf.shifts", laid_rubrick_utf_shifts)], narrowed := true }
def ExtractTellsUptoSaid : Prop := extractTellsUptoRow.holds Tryz.pinned (OpenSpec.upto extractTellsSpec)

/-- 'rubricklaw21.ExtractSteps', WHERE WHAT IT READS IS OF BULK AT MOST 1048576: true; the input reads as it did. -/
def extractStepsUptoRow : OpenClaim := { program := "ytfbolhlbmbfhbaagreatdoor", sum := "74fa32e6dc894b87a1f18e2559fe19639a045a5f20cf55e1e7a9dde96b1d29c2", func := "rubrick/rubricklaw21.ExtractSteps", spec := "extractSteps", unfollowed := true, recurses := true, named := ["rubrick/utf.letters", "rubrick/utf.shifts", "rubrick/sha.begin", "rubrick/sha.rounds"], apart := false, laid := [("rubrick/sha.begin", laid_rubrick_sha_begin), ("rubrick/sha.rounds", laid_rubrick_sha_rounds), ("rubrick/utf.letters", laid_rubrick_utf_letters), ("rubrick/utf.shifts", laid_rubrick_utf_shifts)], narrowed := true }
def ExtractStepsUptoSaid : Prop := extractStepsUptoRow.holds Tryz.pinned (OpenSpec.upto extractStepsSpec)

/-- 'rubricklaw21.ExtractHonest', WHERE WHAT IT READS IS OF BULK AT MOST 1048576: true; the input reads as it did. -/
def extractHonestUptoRow : OpenClaim := { program := "ytfbolhlbmbfhbaagreatdoor", sum := "74fa32e6dc894b87a1f18e2559fe19639a045a5f20cf55e1e7a9dde96b1d29c2", func := "rubrick/rubricklaw21.ExtractHonest", spec := "extractHonest", unfollowed := true, recurses := true, named := ["rubrick/utf.letters", "rubrick/utf.shifts", "rubrick/sha.begin", "rubrick/sha.rounds"], apart := false, laid := [("rubrick/sha.begin", laid_rubrick_sha_begin), ("rubrick/sha.rounds", laid_rubrick_sha_rounds), ("rubrick/utf.letters", laid_rubrick_utf_letters), ("rubrick/utf.shifts", laid_rubrick_utf_shifts)], narrowed := true }
def ExtractHonestUptoSaid : Prop := extractHonestUptoRow.holds Tryz.pinned (OpenSpec.upto extractHonestSpec)

end Rows
end Go.Proofs.YtfbolhlbmbfhbaaGreatDoor
