/-
  NARROWER THAN 'FOR EVERY INPUT', by the rows' own cells (each row's printed sentence says how): ClientChecks: laid · ClientMerges: laid · ClientOther: laid · ClientAccepts: laid · ClientFetches: laid · ClientRefuses: laid · ClientFollows: laid.
  DERIVED. THE GIVEN ROWS OF THIS SEAT. 7 by the template 'for every input the law returns true; each argument reads behind the call as it read before'; 0 by the template 'total and deterministic' (their statements: YtimebdkngdbpkaaGreatDoorTotals.lean).
  GIVEN WITH THE SEED: the statements are not yours to turn. If you find one false, say at which input.
  Laid BY PROGRAM, IN A SANDBOX (cutbox-rows.mjs): the forced cells as the released guide's own fill.sh prints them over the translation 03e13bfe00fe7822… (all of the seat's roots in one cut). By AI agents, Wed Nov 11 2026. No macro, syntax, notation, axiom, sorry.
-/
import Derived.Test.YtimebdkngdbpkaaGreatDoorChecked
import GoSem.Claim
import GoSem.ClaimJoined
import GoSem.ClaimMapViews
import Derived.JoinedTies
import Derived.KernelRfl
namespace Go.Proofs.YtimebdkngdbpkaaGreatDoor
/- THE CELL 'sum', in the pinned program and in every row, IS THE sha256 OF THE DUMP (.gsa) THAT YtimebdkngdbpkaaGreatDoorProg.lean LOADS. Nothing in Lean hashes anything: it is a label: what it is worth is what the hold of that sum in a sandbox is worth. -/
noncomputable def Tryz.pinned : Pinned := { name := "ytimebdkngdbpkaagreatdoor", sum := "03e13bfe00fe7822e5d629f068056392ea970cbaa83898c46bd3f2ec961ed733", checked := Tryz.checked }
namespace Rows
def none {H : Type} : Left H := { results := [], args := [] }

/- WHAT THE LISTED PACKAGE-LEVEL VARIABLES READ AS WHEN THE CALL BEGINS. Each datum BY PROGRAM (the guide's laid-datum.mjs) off the statement by which the dump's own 'gosem.cut.vars' lays the variable. In a bare row this is a premise. The card (YtimebdkngdbpkaaGreatDoorCards.lean) ties it to the program's text. -/
def laid_rubrick_sha_begin {H : Type} : DataW H := .agg [.lit (.int .u32 1779033703), .lit (.int .u32 3144134277), .lit (.int .u32 1013904242), .lit (.int .u32 2773480762), .lit (.int .u32 1359893119), .lit (.int .u32 2600822924), .lit (.int .u32 528734635), .lit (.int .u32 1541459225)]
def laid_rubrick_sha_rounds {H : Type} : DataW H := .agg [.lit (.int .u32 1116352408), .lit (.int .u32 1899447441), .lit (.int .u32 3049323471), .lit (.int .u32 3921009573), .lit (.int .u32 961987163), .lit (.int .u32 1508970993), .lit (.int .u32 2453635748), .lit (.int .u32 2870763221), .lit (.int .u32 3624381080), .lit (.int .u32 310598401), .lit (.int .u32 607225278), .lit (.int .u32 1426881987), .lit (.int .u32 1925078388), .lit (.int .u32 2162078206), .lit (.int .u32 2614888103), .lit (.int .u32 3248222580), .lit (.int .u32 3835390401), .lit (.int .u32 4022224774), .lit (.int .u32 264347078), .lit (.int .u32 604807628), .lit (.int .u32 770255983), .lit (.int .u32 1249150122), .lit (.int .u32 1555081692), .lit (.int .u32 1996064986), .lit (.int .u32 2554220882), .lit (.int .u32 2821834349), .lit (.int .u32 2952996808), .lit (.int .u32 3210313671), .lit (.int .u32 3336571891), .lit (.int .u32 3584528711), .lit (.int .u32 113926993), .lit (.int .u32 338241895), .lit (.int .u32 666307205), .lit (.int .u32 773529912), .lit (.int .u32 1294757372), .lit (.int .u32 1396182291), .lit (.int .u32 1695183700), .lit (.int .u32 1986661051), .lit (.int .u32 2177026350), .lit (.int .u32 2456956037), .lit (.int .u32 2730485921), .lit (.int .u32 2820302411), .lit (.int .u32 3259730800), .lit (.int .u32 3345764771), .lit (.int .u32 3516065817), .lit (.int .u32 3600352804), .lit (.int .u32 4094571909), .lit (.int .u32 275423344), .lit (.int .u32 430227734), .lit (.int .u32 506948616), .lit (.int .u32 659060556), .lit (.int .u32 883997877), .lit (.int .u32 958139571), .lit (.int .u32 1322822218), .lit (.int .u32 1537002063), .lit (.int .u32 1747873779), .lit (.int .u32 1955562222), .lit (.int .u32 2024104815), .lit (.int .u32 2227730452), .lit (.int .u32 2361852424), .lit (.int .u32 2428436474), .lit (.int .u32 2756734187), .lit (.int .u32 3204031479), .lit (.int .u32 3329325298)]
def laid_rubrick_utf_letters {H : Type} : DataW H := .agg [.agg [.lit (.int .i64 65), .lit (.int .i64 90)], .agg [.lit (.int .i64 97), .lit (.int .i64 122)], .agg [.lit (.int .i64 192), .lit (.int .i64 214)], .agg [.lit (.int .i64 216), .lit (.int .i64 246)], .agg [.lit (.int .i64 248), .lit (.int .i64 255)], .agg [.lit (.int .i64 913), .lit (.int .i64 929)], .agg [.lit (.int .i64 931), .lit (.int .i64 937)], .agg [.lit (.int .i64 945), .lit (.int .i64 969)], .agg [.lit (.int .i64 1024), .lit (.int .i64 1119)]]
def laid_rubrick_utf_shifts {H : Type} : DataW H := .agg [.agg [.lit (.int .i64 65), .lit (.int .i64 90), .lit (.int .i64 32)], .agg [.lit (.int .i64 192), .lit (.int .i64 214), .lit (.int .i64 32)], .agg [.lit (.int .i64 216), .lit (.int .i64 222), .lit (.int .i64 32)], .agg [.lit (.int .i64 913), .lit (.int .i64 929), .lit (.int .i64 32)], .agg [.lit (.int .i64 931), .lit (.int .i64 937), .lit (.int .i64 32)], .agg [.lit (.int .i64 1024), .lit (.int .i64 1039), .lit (.int .i64 80)], .agg [.lit (.int .i64 1040), .lit (.int .i64 1071), .lit (.int .i64 32)]]

/-- 'rubricklaw20.ClientChecks': WHATEVER THE INPUT: true; the input reads as it did. -/
def clientChecksSpec : ChangeSpec := { name := "clientChecks", fn := fun _ => fun
  | [d1, d2, d3] => { results := [.lit (.bool true)], args := [d1, d2, d3] }
  | _ => none }
def clientChecksRow : OpenClaim := { program := "ytimebdkngdbpkaagreatdoor", sum := "03e13bfe00fe7822e5d629f068056392ea970cbaa83898c46bd3f2ec961ed733", func := "rubrick/rubricklaw20.ClientChecks", spec := "clientChecks", unfollowed := true, recurses := true, named := ["rubrick/utf.letters", "rubrick/utf.shifts", "rubrick/sha.begin", "rubrick/sha.rounds"], apart := false, laid := [("rubrick/sha.begin", laid_rubrick_sha_begin), ("rubrick/sha.rounds", laid_rubrick_sha_rounds), ("rubrick/utf.letters", laid_rubrick_utf_letters), ("rubrick/utf.shifts", laid_rubrick_utf_shifts)] }
def ClientChecksSaid : Prop := clientChecksRow.holds Tryz.pinned (OpenSpec.ofChange clientChecksSpec)

/-- ITS FALSE NEIGHBOUR: 'it returns false'. Refute it at one input. -/
def clientChecksWrong : ChangeSpec := { name := "clientChecks", fn := fun _ => fun
  | [d1, d2, d3] => { results := [.lit (.bool false)], args := [d1, d2, d3] }
  | _ => none }
def ClientChecksWrongFalsely : Prop := clientChecksRow.holds Tryz.pinned (OpenSpec.ofChange clientChecksWrong)

/-- 'rubricklaw20.ClientMerges': WHATEVER THE INPUT: true; the input reads as it did. -/
def clientMergesSpec : ChangeSpec := { name := "clientMerges", fn := fun _ => fun
  | [d1, d2, d3] => { results := [.lit (.bool true)], args := [d1, d2, d3] }
  | _ => none }
def clientMergesRow : OpenClaim := { program := "ytimebdkngdbpkaagreatdoor", sum := "03e13bfe00fe7822e5d629f068056392ea970cbaa83898c46bd3f2ec961ed733", func := "rubrick/rubricklaw20.ClientMerges", spec := "clientMerges", unfollowed := true, recurses := true, named := ["rubrick/utf.letters", "rubrick/utf.shifts", "rubrick/sha.begin", "rubrick/sha.rounds"], apart := false, laid := [("rubrick/sha.begin", laid_rubrick_sha_begin), ("rubrick/sha.rounds", laid_rubrick_sha_rounds), ("rubrick/utf.letters", laid_rubrick_utf_letters), ("rubrick/utf.shifts", laid_rubrick_utf_shifts)] }
def ClientMergesSaid : Prop := clientMergesRow.holds Tryz.pinned (OpenSpec.ofChange clientMergesSpec)

/-- ITS FALSE NEIGHBOUR: 'it returns false'. Refute it at one input. -/
def clientMergesWrong : ChangeSpec := { name := "clientMerges", fn := fun _ => fun
  | [d1, d2, d3] => { results := [.lit (.bool false)], args := [d1, d2, d3] }
  | _ => none }
def ClientMergesWrongFalsely : Prop := clientMergesRow.holds Tryz.pinned (OpenSpec.ofChange clientMergesWrong)

/-- 'rubricklaw20.ClientOther': WHATEVER THE INPUT: true; the input reads as it did. -/
def clientOtherSpec : ChangeSpec := { name := "clientOther", fn := fun _ => fun
  | [d1, d2, d3] => { results := [.lit (.bool true)], args := [d1, d2, d3] }
  | _ => none }
def clientOtherRow : OpenClaim := { program := "ytimebdkngdbpkaagreatdoor", sum := "03e13bfe00fe7822e5d629f068056392ea970cbaa83898c46bd3f2ec961ed733", func := "rubrick/rubricklaw20.ClientOther", spec := "clientOther", unfollowed := true, recurses := true, named := ["rubrick/utf.letters", "rubrick/utf.shifts", "rubrick/sha.begin", "rubrick/sha.rounds"], apart := false, laid := [("rubrick/sha.begin", laid_rubrick_sha_begin), ("rubrick/sha.rounds", laid_rubrick_sha_rounds), ("rubrick/utf.letters", laid_rubrick_utf_letters), ("rubrick/utf.shifts", laid_rubrick_utf_shifts)] }
def ClientOtherSaid : Prop := clientOtherRow.holds Tryz.pinned (OpenSpec.ofChange clientOtherSpec)

/-- ITS FALSE NEIGHBOUR: 'it returns false'. Refute it at one input. -/
def clientOtherWrong : ChangeSpec := { name := "clientOther", fn := fun _ => fun
  | [d1, d2, d3] => { results := [.lit (.bool false)], args := [d1, d2, d3] }
  | _ => none }
def ClientOtherWrongFalsely : Prop := clientOtherRow.holds Tryz.pinned (OpenSpec.ofChange clientOtherWrong)

/-- 'rubricklaw20.ClientAccepts': WHATEVER THE INPUT: true; the input reads as it did. -/
def clientAcceptsSpec : ChangeSpec := { name := "clientAccepts", fn := fun _ => fun
  | [d1, d2] => { results := [.lit (.bool true)], args := [d1, d2] }
  | _ => none }
def clientAcceptsRow : OpenClaim := { program := "ytimebdkngdbpkaagreatdoor", sum := "03e13bfe00fe7822e5d629f068056392ea970cbaa83898c46bd3f2ec961ed733", func := "rubrick/rubricklaw20.ClientAccepts", spec := "clientAccepts", unfollowed := true, recurses := true, named := ["rubrick/utf.letters", "rubrick/utf.shifts", "rubrick/sha.begin", "rubrick/sha.rounds"], apart := false, laid := [("rubrick/sha.begin", laid_rubrick_sha_begin), ("rubrick/sha.rounds", laid_rubrick_sha_rounds), ("rubrick/utf.letters", laid_rubrick_utf_letters), ("rubrick/utf.shifts", laid_rubrick_utf_shifts)] }
def ClientAcceptsSaid : Prop := clientAcceptsRow.holds Tryz.pinned (OpenSpec.ofChange clientAcceptsSpec)

/-- ITS FALSE NEIGHBOUR: 'it returns false'. Refute it at one input. -/
def clientAcceptsWrong : ChangeSpec := { name := "clientAccepts", fn := fun _ => fun
  | [d1, d2] => { results := [.lit (.bool false)], args := [d1, d2] }
  | _ => none }
def ClientAcceptsWrongFalsely : Prop := clientAcceptsRow.holds Tryz.pinned (OpenSpec.ofChange clientAcceptsWrong)

/-- 'rubricklaw20.ClientFetches': WHATEVER THE INPUT: true; the input reads as it did. -/
def clientFetchesSpec : ChangeSpec := { name := "clientFetches", fn := fun _ => fun
  | [d1, d2, d3] => { results := [.lit (.bool true)], args := [d1, d2, d3] }
  | _ => none }
def clientFetchesRow : OpenClaim := { program := "ytimebdkngdbpkaagreatdoor", sum := "03e13bfe00fe7822e5d629f068056392ea970cbaa83898c46bd3f2ec961ed733", func := "rubrick/rubricklaw20.ClientFetches", spec := "clientFetches", unfollowed := true, recurses := true, named := ["rubrick/utf.letters", "rubrick/utf.shifts", "rubrick/sha.begin", "rubrick/sha.rounds"], apart := false, laid := [("rubrick/sha.begin", laid_rubrick_sha_begin), ("rubrick/sha.rounds", laid_rubrick_sha_rounds), ("rubrick/utf.letters", laid_rubrick_utf_letters), ("rubrick/utf.shifts", laid_rubrick_utf_shifts)] }
def ClientFetchesSaid : Prop := clientFetchesRow.holds Tryz.pinned (OpenSpec.ofChange clientFetchesSpec)

/-- ITS FALSE NEIGHBOUR: 'it returns false'. Refute it at one input. -/
def clientFetchesWrong : ChangeSpec := { name := "clientFetches", fn := fun _ => fun
  | [d1, d2, d3] => { results := [.lit (.bool false)], args := [d1, d2, d3] }
  | _ => none }
def ClientFetchesWrongFalsely : Prop := clientFetchesRow.holds Tryz.pinned (OpenSpec.ofChange clientFetchesWrong)

/-- 'rubricklaw20.ClientRefuses': WHATEVER THE INPUT: true; the input reads as it did. -/
def clientRefusesSpec : ChangeSpec := { name := "clientRefuses", fn := fun _ => fun
  | [d1, d2, d3, d4, d5] => { results := [.lit (.bool true)], args := [d1, d2, d3, d4, d5] }
  | _ => none }
def clientRefusesRow : OpenClaim := { program := "ytimebdkngdbpkaagreatdoor", sum := "03e13bfe00fe7822e5d629f068056392ea970cbaa83898c46bd3f2ec961ed733", func := "rubrick/rubricklaw20.ClientRefuses", spec := "clientRefuses", unfollowed := true, recurses := true, named := ["rubrick/utf.letters", "rubrick/utf.shifts", "rubrick/sha.begin", "rubrick/sha.rounds"], apart := false, laid := [("rubrick/sha.begin", laid_rubrick_sha_begin), ("rubrick/sha.rounds", laid_rubrick_sha_rounds), ("rubrick/utf.letters", laid_rubrick_utf_letters), ("rubrick/utf.shifts", laid_rubrick_utf_shifts)] }
def ClientRefusesSaid : Prop := clientRefusesRow.holds Tryz.pinned (OpenSpec.ofChange clientRefusesSpec)

/-- ITS FALSE NEIGHBOUR: 'it returns false'. Refute it at one input. -/
def clientRefusesWrong : ChangeSpec := { name := "clientRefuses", fn := fun _ => fun
  | [d1, d2, d3, d4, d5] => { results := [.lit (.bool false)], args := [d1, d2, d3, d4, d5] }
  | _ => none }
def ClientRefusesWrongFalsely : Prop := clientRefusesRow.holds Tryz.pinned (OpenSpec.ofChange clientRefusesWrong)

/-- 'rubricklaw20.ClientFollows': WHATEVER THE INPUT: true; the input reads as it did. -/
def clientFollowsSpec : ChangeSpec := { name := "clientFollows", fn := fun _ => fun
  | [d1, d2] => { results := [.lit (.bool true)], args := [d1, d2] }
  | _ => none }
def clientFollowsRow : OpenClaim := { program := "ytimebdkngdbpkaagreatdoor", sum := "03e13bfe00fe7822e5d629f068056392ea970cbaa83898c46bd3f2ec961ed733", func := "rubrick/rubricklaw20.ClientFollows", spec := "clientFollows", unfollowed := true, recurses := true, named := ["rubrick/utf.letters", "rubrick/utf.shifts", "rubrick/sha.begin", "rubrick/sha.rounds"], apart := false, laid := [("rubrick/sha.begin", laid_rubrick_sha_begin), ("rubrick/sha.rounds", laid_rubrick_sha_rounds), ("rubrick/utf.letters", laid_rubrick_utf_letters), ("rubrick/utf.shifts", laid_rubrick_utf_shifts)] }
def ClientFollowsSaid : Prop := clientFollowsRow.holds Tryz.pinned (OpenSpec.ofChange clientFollowsSpec)

/-- ITS FALSE NEIGHBOUR: 'it returns false'. Refute it at one input. -/
def clientFollowsWrong : ChangeSpec := { name := "clientFollows", fn := fun _ => fun
  | [d1, d2] => { results := [.lit (.bool false)], args := [d1, d2] }
  | _ => none }
def ClientFollowsWrongFalsely : Prop := clientFollowsRow.holds Tryz.pinned (OpenSpec.ofChange clientFollowsWrong)

/- THE SECOND FORM. 'bulk': how many values and letters a reading holds, each counted each time it is reached (what is shared counts as often as it is met; a slice's spare places count too). A statement '..UptoSaid' is the law's where the arguments, and the package variables that the reading takes, are together of bulk at most 1048576: NARROWER than '..Said'. Prove '..Said' where nothing that the law and all that it calls make is longer than what came in: it says more and counts as full. Else prove '..UptoSaid'. A law counts once. -/
mutual
def uptoBulk {H : Type} : DataW H → Nat
  | .lit (.string bytes) => bytes.length + 1
  | .lit _ => 1
  | .nil => 1
  | .ptr d => uptoBulk d + 1
  | .slice elems spare => uptoBulkAll elems + uptoBulkAll spare + 1
  | .agg parts => uptoBulkAll parts + 1
  | .iface _ d => uptoBulk d + 1
  | .map entries => uptoBulkEntries entries + 1
  | .held _ => 1
def uptoBulkAll {H : Type} : List (DataW H) → Nat
  | [] => 0
  | d :: r => uptoBulk d + uptoBulkAll r
def uptoBulkEntries {H : Type} : List (Lit × DataW H) → Nat
  | [] => 0
  | x :: r => uptoBulkEntry x + uptoBulkEntries r
def uptoBulkEntry {H : Type} : Lit × DataW H → Nat
  | (.string bytes, d) => bytes.length + uptoBulk d + 1
  | (_, d) => uptoBulk d + 1
 end
def uptoSmall : (H : Type) → List (DataW H) → Bool := fun _ ds => decide (uptoBulkAll ds ≤ 1048576)
def OpenSpec.upto (s : _root_.Go.ChangeSpec) : _root_.Go.OpenSpec := { _root_.Go.OpenSpec.ofChange s with cond := some uptoSmall }

/-- 'rubricklaw20.ClientChecks', WHERE WHAT IT READS IS OF BULK AT MOST 1048576: true; the input reads as it did. -/
def clientChecksUptoRow : OpenClaim := { program := "ytimebdkngdbpkaagreatdoor", sum := "03e13bfe00fe7822e5d629f068056392ea970cbaa83898c46bd3f2ec961ed733", func := "rubrick/rubricklaw20.ClientChecks", spec := "clientChecks", unfollowed := true, recurses := true, named := ["rubrick/utf.letters", "rubrick/utf.shifts", "rubrick/sha.begin", "rubrick/sha.rounds"], apart := false, laid := [("rubrick/sha.begin", laid_rubrick_sha_begin), ("rubrick/sha.rounds", laid_rubrick_sha_rounds), ("rubrick/utf.letters", laid_rubrick_utf_letters), ("rubrick/utf.shifts", laid_rubrick_utf_shifts)], narrowed := true }
def ClientChecksUptoSaid : Prop := clientChecksUptoRow.holds Tryz.pinned (OpenSpec.upto clientChecksSpec)

/-- 'rubricklaw20.ClientMerges', WHERE WHAT IT READS IS OF BULK AT MOST 1048576: true; the input reads as it did. -/
def clientMergesUptoRow : OpenClaim := { program := "ytimebdkngdbpkaagreatdoor", sum := "03e13bfe00fe7822e5d629f068056392ea970cbaa83898c46bd3f2ec961ed733", func := "rubrick/rubricklaw20.ClientMerges", spec := "clientMerges", unfollowed := true, recurses := true, named := ["rubrick/utf.letters", "rubrick/utf.shifts", "rubrick/sha.begin", "rubrick/sha.rounds"], apart := false, laid := [("rubrick/sha.begin", laid_rubrick_sha_begin), ("rubrick/sha.rounds", laid_rubrick_sha_rounds), ("rubrick/utf.letters", laid_rubrick_utf_letters), ("rubrick/utf.shifts", laid_rubrick_utf_shifts)], narrowed := true }
def ClientMergesUptoSaid : Prop := clientMergesUptoRow.holds Tryz.pinned (OpenSpec.upto clientMergesSpec)

/-- 'rubricklaw20.ClientOther', WHERE WHAT IT READS IS OF BULK AT MOST 1048576: true; the input reads as it did. -/
def clientOtherUptoRow : OpenClaim := { program := "ytimebdkngdbpkaagreatdoor", sum := "03e13bfe00fe7822e5d629f068056392ea970cbaa83898c46bd3f2ec961ed733", func := "rubrick/rubricklaw20.ClientOther", spec := "clientOther", unfollowed := true, recurses := true, named := ["rubrick/utf.letters", "rubrick/utf.shifts", "rubrick/sha.begin", "rubrick/sha.rounds"], apart := false, laid := [("rubrick/sha.begin", laid_rubrick_sha_begin), ("rubrick/sha.rounds", laid_rubrick_sha_rounds), ("rubrick/utf.letters", laid_rubrick_utf_letters), ("rubrick/utf.shifts", laid_rubrick_utf_shifts)], narrowed := true }
def ClientOtherUptoSaid : Prop := clientOtherUptoRow.holds Tryz.pinned (OpenSpec.upto clientOtherSpec)

/-- 'rubricklaw20.ClientAccepts', WHERE WHAT IT READS IS OF BULK AT MOST 1048576: true; the input reads as it did. -/
def clientAcceptsUptoRow : OpenClaim := { program := "ytimebdkngdbpkaagreatdoor", sum := "03e13bfe00fe7822e5d629f068056392ea970cbaa83898c46bd3f2ec961ed733", func := "rubrick/rubricklaw20.ClientAccepts", spec := "clientAccepts", unfollowed := true, recurses := true, named := ["rubrick/utf.letters", "rubrick/utf.shifts", "rubrick/sha.begin", "rubrick/sha.rounds"], apart := false, laid := [("rubrick/sha.begin", laid_rubrick_sha_begin), ("rubrick/sha.rounds", laid_rubrick_sha_rounds), ("rubrick/utf.letters", laid_rubrick_utf_letters), ("rubrick/utf.shifts", laid_rubrick_utf_shifts)], narrowed := true }
def ClientAcceptsUptoSaid : Prop := clientAcceptsUptoRow.holds Tryz.pinned (OpenSpec.upto clientAcceptsSpec)

/-- 'rubricklaw20.ClientFetches', WHERE WHAT IT READS IS OF BULK AT MOST 1048576: true; the input reads as it did. -/
def clientFetchesUptoRow : OpenClaim := { program := "ytimebdkngdbpkaagreatdoor", sum := "03e13bfe00fe7822e5d629f068056392ea970cbaa83898c46bd3f2ec961ed733", func := "rubrick/rubricklaw20.ClientFetches", spec := "clientFetches", unfollowed := true, recurses := true, named := ["rubrick/utf.letters", "rubrick/utf.shifts", "rubrick/sha.begin", "rubrick/sha.rounds"], apart := false, laid := [("rubrick/sha.begin", laid_rubrick_sha_begin), ("rubrick/sha.rounds", laid_rubrick_sha_rounds), ("rubrick/utf.letters", laid_rubrick_utf_letters), ("rubrick/utf.shifts", laid_rubrick_utf_shifts)], narrowed := true }
def ClientFetchesUptoSaid : Prop := clientFetchesUptoRow.holds Tryz.pinned (OpenSpec.upto clientFetchesSpec)

/-- 'rubricklaw20.ClientRefuses', WHERE WHAT IT READS IS OF BULK AT MOST 1048576: true; the input reads as it did. -/
def clientRefusesUptoRow : OpenClaim := { program := "ytimebdkngdbpkaagreatdoor", sum := "03e13bfe00fe7822e5d629f068056392ea970cbaa83898c46bd3f2ec961ed733", func := "rubrick/rubricklaw20.ClientRefuses", spec := "clientRefuses", unfollowed := true, recurses := true, named := ["rubrick/utf.letters", "rubrick/utf.shifts", "rubrick/sha.begin", "rubrick/sha.rounds"], apart := false, laid := [("rubrick/sha.begin", laid_rubrick_sha_begin), ("rubrick/sha.rounds", laid_rubrick_sha_rounds), ("rubrick/utf.letters", laid_rubrick_utf_letters), ("rubrick/utf.shifts", laid_rubrick_utf_shifts)], narrowed := true }
def ClientRefusesUptoSaid : Prop := clientRefusesUptoRow.holds Tryz.pinned (OpenSpec.upto clientRefusesSpec)

/-- 'rubricklaw20.ClientFollows', WHERE WHAT IT READS IS OF BULK AT MOST 1048576: true; the input reads as it did. -/
def clientFollowsUptoRow : OpenClaim := { program := "ytimebdkngdbpkaagreatdoor", sum := "03e13bfe00fe7822e5d629f068056392ea970cbaa83898c46bd3f2ec961ed733", func := "rubrick/rubricklaw20.ClientFollows", spec := "clientFollows", unfollowed := true, recurses := true, named := ["rubrick/utf.letters", "rubrick/utf.shifts", "rubrick/sha.begin", "rubrick/sha.rounds"], apart := false, laid := [("rubrick/sha.begin", laid_rubrick_sha_begin), ("rubrick/sha.rounds", laid_rubrick_sha_rounds), ("rubrick/utf.letters", laid_rubrick_utf_letters), ("rubrick/utf.shifts", laid_rubrick_utf_shifts)], narrowed := true }
def ClientFollowsUptoSaid : Prop := clientFollowsUptoRow.holds Tryz.pinned (OpenSpec.upto clientFollowsSpec)

end Rows
end Go.Proofs.YtimebdkngdbpkaaGreatDoor
