/-
  NARROWER THAN 'FOR EVERY INPUT', by the rows' own cells (each row's printed sentence says how): PlanRights: laid · PlanPlays: laid · PlanStays: laid · PlanKeeps: laid · HeadTells: laid · HeadBack: laid · HeadApart: laid · PlanRow: laid · PlanHas: laid · HeadLog: laid · HeadGrows: laid.
  DERIVED. THE GIVEN ROWS OF THIS SEAT. 11 by the template 'for every input the law returns true; each argument reads behind the call as it read before'; 0 by the template 'total and deterministic' (their statements: YtcmmooohmnjklaaGreatDoorTotals.lean).
  GIVEN WITH THE SEED: the statements are not yours to turn. If you find one false, say at which input.
  Laid BY PROGRAM, IN A SANDBOX (cutbox-rows.mjs): the forced cells as the released guide's own fill.sh prints them over the translation d98a52519a9626f0… (all of the seat's roots in one cut). By AI agents, Wed Nov 11 2026. No macro, syntax, notation, axiom, sorry.
-/
import Derived.Test.YtcmmooohmnjklaaGreatDoorChecked
import GoSem.Claim
import GoSem.ClaimJoined
import GoSem.ClaimMapViews
import Derived.JoinedTies
import Derived.KernelRfl
namespace Go.Proofs.YtcmmooohmnjklaaGreatDoor
/- THE CELL 'sum', in the pinned program and in every row, IS THE sha256 OF THE DUMP (.gsa) THAT YtcmmooohmnjklaaGreatDoorProg.lean LOADS. Nothing in Lean hashes anything: it is a label: what it is worth is what the hold of that sum in a sandbox is worth. -/
noncomputable def Tryz.pinned : Pinned := { name := "ytcmmooohmnjklaagreatdoor", sum := "d98a52519a9626f08ffa5ad28ae18dd1f5c6627007580a57c114649e6c755782", checked := Tryz.checked }
namespace Rows
def none {H : Type} : Left H := { results := [], args := [] }

/- WHAT THE LISTED PACKAGE-LEVEL VARIABLES READ AS WHEN THE CALL BEGINS. Each datum BY PROGRAM (the guide's laid-datum.mjs) off the statement by which the dump's own 'gosem.cut.vars' lays the variable. In a bare row this is a premise. The card (YtcmmooohmnjklaaGreatDoorCards.lean) ties it to the program's text. -/
def laid_rubrick_sha_begin {H : Type} : DataW H := .agg [.lit (.int .u32 1779033703), .lit (.int .u32 3144134277), .lit (.int .u32 1013904242), .lit (.int .u32 2773480762), .lit (.int .u32 1359893119), .lit (.int .u32 2600822924), .lit (.int .u32 528734635), .lit (.int .u32 1541459225)]
def laid_rubrick_sha_rounds {H : Type} : DataW H := .agg [.lit (.int .u32 1116352408), .lit (.int .u32 1899447441), .lit (.int .u32 3049323471), .lit (.int .u32 3921009573), .lit (.int .u32 961987163), .lit (.int .u32 1508970993), .lit (.int .u32 2453635748), .lit (.int .u32 2870763221), .lit (.int .u32 3624381080), .lit (.int .u32 310598401), .lit (.int .u32 607225278), .lit (.int .u32 1426881987), .lit (.int .u32 1925078388), .lit (.int .u32 2162078206), .lit (.int .u32 2614888103), .lit (.int .u32 3248222580), .lit (.int .u32 3835390401), .lit (.int .u32 4022224774), .lit (.int .u32 264347078), .lit (.int .u32 604807628), .lit (.int .u32 770255983), .lit (.int .u32 1249150122), .lit (.int .u32 1555081692), .lit (.int .u32 1996064986), .lit (.int .u32 2554220882), .lit (.int .u32 2821834349), .lit (.int .u32 2952996808), .lit (.int .u32 3210313671), .lit (.int .u32 3336571891), .lit (.int .u32 3584528711), .lit (.int .u32 113926993), .lit (.int .u32 338241895), .lit (.int .u32 666307205), .lit (.int .u32 773529912), .lit (.int .u32 1294757372), .lit (.int .u32 1396182291), .lit (.int .u32 1695183700), .lit (.int .u32 1986661051), .lit (.int .u32 2177026350), .lit (.int .u32 2456956037), .lit (.int .u32 2730485921), .lit (.int .u32 2820302411), .lit (.int .u32 3259730800), .lit (.int .u32 3345764771), .lit (.int .u32 3516065817), .lit (.int .u32 3600352804), .lit (.int .u32 4094571909), .lit (.int .u32 275423344), .lit (.int .u32 430227734), .lit (.int .u32 506948616), .lit (.int .u32 659060556), .lit (.int .u32 883997877), .lit (.int .u32 958139571), .lit (.int .u32 1322822218), .lit (.int .u32 1537002063), .lit (.int .u32 1747873779), .lit (.int .u32 1955562222), .lit (.int .u32 2024104815), .lit (.int .u32 2227730452), .lit (.int .u32 2361852424), .lit (.int .u32 2428436474), .lit (.int .u32 2756734187), .lit (.int .u32 3204031479), .lit (.int .u32 3329325298)]
def laid_rubrick_utf_letters {H : Type} : DataW H := .agg [.agg [.lit (.int .i64 65), .lit (.int .i64 90)], .agg [.lit (.int .i64 97), .lit (.int .i64 122)], .agg [.lit (.int .i64 192), .lit (.int .i64 214)], .agg [.lit (.int .i64 216), .lit (.int .i64 246)], .agg [.lit (.int .i64 248), .lit (.int .i64 255)], .agg [.lit (.int .i64 913), .lit (.int .i64 929)], .agg [.lit (.int .i64 931), .lit (.int .i64 937)], .agg [.lit (.int .i64 945), .lit (.int .i64 969)], .agg [.lit (.int .i64 1024), .lit (.int .i64 1119)]]
def laid_rubrick_utf_shifts {H : Type} : DataW H := .agg [.agg [.lit (.int .i64 65), .lit (.int .i64 90), .lit (.int .i64 32)], .agg [.lit (.int .i64 192), .lit (.int .i64 214), .lit (.int .i64 32)], .agg [.lit (.int .i64 216), .lit (.int .i64 222), .lit (.int .i64 32)], .agg [.lit (.int .i64 913), .lit (.int .i64 929), .lit (.int .i64 32)], .agg [.lit (.int .i64 931), .lit (.int .i64 937), .lit (.int .i64 32)], .agg [.lit (.int .i64 1024), .lit (.int .i64 1039), .lit (.int .i64 80)], .agg [.lit (.int .i64 1040), .lit (.int .i64 1071), .lit (.int .i64 32)]]

/-- 'rubricklaw14.PlanRights': WHATEVER THE INPUT: true; the input reads as it did. -/
def planRightsSpec : ChangeSpec := { name := "planRights", fn := fun _ => fun
  | [d] => { results := [.lit (.bool true)], args := [d] }
  | _ => none }
def planRightsRow : OpenClaim := { program := "ytcmmooohmnjklaagreatdoor", sum := "d98a52519a9626f08ffa5ad28ae18dd1f5c6627007580a57c114649e6c755782", func := "rubrick/rubricklaw14.PlanRights", spec := "planRights", unfollowed := true, recurses := true, named := ["rubrick/utf.letters", "rubrick/utf.shifts", "rubrick/sha.begin", "rubrick/sha.rounds"], apart := false, laid := [("rubrick/sha.begin", laid_rubrick_sha_begin), ("rubrick/sha.rounds", laid_rubrick_sha_rounds), ("rubrick/utf.letters", laid_rubrick_utf_letters), ("rubrick/utf.shifts", laid_rubrick_utf_shifts)] }
def PlanRightsSaid : Prop := planRightsRow.holds Tryz.pinned (OpenSpec.ofChange planRightsSpec)

/-- ITS FALSE NEIGHBOUR: 'it returns false'. Refute it at one input. -/
def planRightsWrong : ChangeSpec := { name := "planRights", fn := fun _ => fun
  | [d] => { results := [.lit (.bool false)], args := [d] }
  | _ => none }
def PlanRightsWrongFalsely : Prop := planRightsRow.holds Tryz.pinned (OpenSpec.ofChange planRightsWrong)

/-- 'rubricklaw14.PlanPlays': WHATEVER THE INPUT: true; the input reads as it did. -/
def planPlaysSpec : ChangeSpec := { name := "planPlays", fn := fun _ => fun
  | [d1, d2] => { results := [.lit (.bool true)], args := [d1, d2] }
  | _ => none }
def planPlaysRow : OpenClaim := { program := "ytcmmooohmnjklaagreatdoor", sum := "d98a52519a9626f08ffa5ad28ae18dd1f5c6627007580a57c114649e6c755782", func := "rubrick/rubricklaw14.PlanPlays", spec := "planPlays", unfollowed := true, recurses := true, named := ["rubrick/utf.letters", "rubrick/utf.shifts", "rubrick/sha.begin", "rubrick/sha.rounds"], apart := false, laid := [("rubrick/sha.begin", laid_rubrick_sha_begin), ("rubrick/sha.rounds", laid_rubrick_sha_rounds), ("rubrick/utf.letters", laid_rubrick_utf_letters), ("rubrick/utf.shifts", laid_rubrick_utf_shifts)] }
def PlanPlaysSaid : Prop := planPlaysRow.holds Tryz.pinned (OpenSpec.ofChange planPlaysSpec)

/-- ITS FALSE NEIGHBOUR: 'it returns false'. Refute it at one input. -/
def planPlaysWrong : ChangeSpec := { name := "planPlays", fn := fun _ => fun
  | [d1, d2] => { results := [.lit (.bool false)], args := [d1, d2] }
  | _ => none }
def PlanPlaysWrongFalsely : Prop := planPlaysRow.holds Tryz.pinned (OpenSpec.ofChange planPlaysWrong)

/-- 'rubricklaw14.PlanStays': WHATEVER THE INPUT: true; the input reads as it did. -/
def planStaysSpec : ChangeSpec := { name := "planStays", fn := fun _ => fun
  | [d1, d2] => { results := [.lit (.bool true)], args := [d1, d2] }
  | _ => none }
def planStaysRow : OpenClaim := { program := "ytcmmooohmnjklaagreatdoor", sum := "d98a52519a9626f08ffa5ad28ae18dd1f5c6627007580a57c114649e6c755782", func := "rubrick/rubricklaw14.PlanStays", spec := "planStays", unfollowed := true, recurses := true, named := ["rubrick/utf.letters", "rubrick/utf.shifts", "rubrick/sha.begin", "rubrick/sha.rounds"], apart := false, laid := [("rubrick/sha.begin", laid_rubrick_sha_begin), ("rubrick/sha.rounds", laid_rubrick_sha_rounds), ("rubrick/utf.letters", laid_rubrick_utf_letters), ("rubrick/utf.shifts", laid_rubrick_utf_shifts)] }
def PlanStaysSaid : Prop := planStaysRow.holds Tryz.pinned (OpenSpec.ofChange planStaysSpec)

/-- ITS FALSE NEIGHBOUR: 'it returns false'. Refute it at one input. -/
def planStaysWrong : ChangeSpec := { name := "planStays", fn := fun _ => fun
  | [d1, d2] => { results := [.lit (.bool false)], args := [d1, d2] }
  | _ => none }
def PlanStaysWrongFalsely : Prop := planStaysRow.holds Tryz.pinned (OpenSpec.ofChange planStaysWrong)

/-- 'rubricklaw14.PlanKeeps': WHATEVER THE INPUT: true; the input reads as it did. -/
def planKeepsSpec : ChangeSpec := { name := "planKeeps", fn := fun _ => fun
  | [d1, d2] => { results := [.lit (.bool true)], args := [d1, d2] }
  | _ => none }
def planKeepsRow : OpenClaim := { program := "ytcmmooohmnjklaagreatdoor", sum := "d98a52519a9626f08ffa5ad28ae18dd1f5c6627007580a57c114649e6c755782", func := "rubrick/rubricklaw14.PlanKeeps", spec := "planKeeps", unfollowed := true, recurses := true, named := ["rubrick/utf.letters", "rubrick/utf.shifts", "rubrick/sha.begin", "rubrick/sha.rounds"], apart := false, laid := [("rubrick/sha.begin", laid_rubrick_sha_begin), ("rubrick/sha.rounds", laid_rubrick_sha_rounds), ("rubrick/utf.letters", laid_rubrick_utf_letters), ("rubrick/utf.shifts", laid_rubrick_utf_shifts)] }
def PlanKeepsSaid : Prop := planKeepsRow.holds Tryz.pinned (OpenSpec.ofChange planKeepsSpec)

/-- ITS FALSE NEIGHBOUR: 'it returns false'. Refute it at one input. -/
def planKeepsWrong : ChangeSpec := { name := "planKeeps", fn := fun _ => fun
  | [d1, d2] => { results := [.lit (.bool false)], args := [d1, d2] }
  | _ => none }
def PlanKeepsWrongFalsely : Prop := planKeepsRow.holds Tryz.pinned (OpenSpec.ofChange planKeepsWrong)

/-- 'rubricklaw15.HeadTells': WHATEVER THE INPUT: true; the input reads as it did. -/
def headTellsSpec : ChangeSpec := { name := "headTells", fn := fun _ => fun
  | [d] => { results := [.lit (.bool true)], args := [d] }
  | _ => none }
def headTellsRow : OpenClaim := { program := "ytcmmooohmnjklaagreatdoor", sum := "d98a52519a9626f08ffa5ad28ae18dd1f5c6627007580a57c114649e6c755782", func := "rubrick/rubricklaw15.HeadTells", spec := "headTells", unfollowed := true, recurses := true, named := ["rubrick/utf.letters", "rubrick/utf.shifts", "rubrick/sha.begin", "rubrick/sha.rounds"], apart := false, laid := [("rubrick/sha.begin", laid_rubrick_sha_begin), ("rubrick/sha.rounds", laid_rubrick_sha_rounds), ("rubrick/utf.letters", laid_rubrick_utf_letters), ("rubrick/utf.shifts", laid_rubrick_utf_shifts)] }
def HeadTellsSaid : Prop := headTellsRow.holds Tryz.pinned (OpenSpec.ofChange headTellsSpec)

/-- ITS FALSE NEIGHBOUR: 'it returns false'. Refute it at one input. -/
def headTellsWrong : ChangeSpec := { name := "headTells", fn := fun _ => fun
  | [d] => { results := [.lit (.bool false)], args := [d] }
  | _ => none }
def HeadTellsWrongFalsely : Prop := headTellsRow.holds Tryz.pinned (OpenSpec.ofChange headTellsWrong)

/-- 'rubricklaw15.HeadBack': WHATEVER THE INPUT: true; the input reads as it did. -/
def headBackSpec : ChangeSpec := { name := "headBack", fn := fun _ => fun
  | [d1, d2] => { results := [.lit (.bool true)], args := [d1, d2] }
  | _ => none }
def headBackRow : OpenClaim := { program := "ytcmmooohmnjklaagreatdoor", sum := "d98a52519a9626f08ffa5ad28ae18dd1f5c6627007580a57c114649e6c755782", func := "rubrick/rubricklaw15.HeadBack", spec := "headBack", unfollowed := true, recurses := true, named := ["rubrick/utf.letters", "rubrick/utf.shifts", "rubrick/sha.begin", "rubrick/sha.rounds"], apart := false, laid := [("rubrick/sha.begin", laid_rubrick_sha_begin), ("rubrick/sha.rounds", laid_rubrick_sha_rounds), ("rubrick/utf.letters", laid_rubrick_utf_letters), ("rubrick/utf.shifts", laid_rubrick_utf_shifts)] }
def HeadBackSaid : Prop := headBackRow.holds Tryz.pinned (OpenSpec.ofChange headBackSpec)

/-- ITS FALSE NEIGHBOUR: 'it returns false'. Refute it at one input. -/
def headBackWrong : ChangeSpec := { name := "headBack", fn := fun _ => fun
  | [d1, d2] => { results := [.lit (.bool false)], args := [d1, d2] }
  | _ => none }
def HeadBackWrongFalsely : Prop := headBackRow.holds Tryz.pinned (OpenSpec.ofChange headBackWrong)

/-- 'rubricklaw15.HeadApart': WHATEVER THE INPUT: true; the input reads as it did. -/
def headApartSpec : ChangeSpec := { name := "headApart", fn := fun _ => fun
  | [d1, d2] => { results := [.lit (.bool true)], args := [d1, d2] }
  | _ => none }
def headApartRow : OpenClaim := { program := "ytcmmooohmnjklaagreatdoor", sum := "d98a52519a9626f08ffa5ad28ae18dd1f5c6627007580a57c114649e6c755782", func := "rubrick/rubricklaw15.HeadApart", spec := "headApart", unfollowed := true, recurses := true, named := ["rubrick/utf.letters", "rubrick/utf.shifts", "rubrick/sha.begin", "rubrick/sha.rounds"], apart := false, laid := [("rubrick/sha.begin", laid_rubrick_sha_begin), ("rubrick/sha.rounds", laid_rubrick_sha_rounds), ("rubrick/utf.letters", laid_rubrick_utf_letters), ("rubrick/utf.shifts", laid_rubrick_utf_shifts)] }
def HeadApartSaid : Prop := headApartRow.holds Tryz.pinned (OpenSpec.ofChange headApartSpec)

/-- ITS FALSE NEIGHBOUR: 'it returns false'. Refute it at one input. -/
def headApartWrong : ChangeSpec := { name := "headApart", fn := fun _ => fun
  | [d1, d2] => { results := [.lit (.bool false)], args := [d1, d2] }
  | _ => none }
def HeadApartWrongFalsely : Prop := headApartRow.holds Tryz.pinned (OpenSpec.ofChange headApartWrong)

/-- 'rubricklaw14.PlanRow': WHATEVER THE INPUT: true; the input reads as it did. -/
def planRowSpec : ChangeSpec := { name := "planRow", fn := fun _ => fun
  | [d] => { results := [.lit (.bool true)], args := [d] }
  | _ => none }
def planRowRow : OpenClaim := { program := "ytcmmooohmnjklaagreatdoor", sum := "d98a52519a9626f08ffa5ad28ae18dd1f5c6627007580a57c114649e6c755782", func := "rubrick/rubricklaw14.PlanRow", spec := "planRow", unfollowed := true, recurses := true, named := ["rubrick/utf.letters", "rubrick/utf.shifts", "rubrick/sha.begin", "rubrick/sha.rounds"], apart := false, laid := [("rubrick/sha.begin", laid_rubrick_sha_begin), ("rubrick/sha.rounds", laid_rubrick_sha_rounds), ("rubrick/utf.letters", laid_rubrick_utf_letters), ("rubrick/utf.shifts", laid_rubrick_utf_shifts)] }
def PlanRowSaid : Prop := planRowRow.holds Tryz.pinned (OpenSpec.ofChange planRowSpec)

/-- ITS FALSE NEIGHBOUR: 'it returns false'. Refute it at one input. -/
def planRowWrong : ChangeSpec := { name := "planRow", fn := fun _ => fun
  | [d] => { results := [.lit (.bool false)], args := [d] }
  | _ => none }
def PlanRowWrongFalsely : Prop := planRowRow.holds Tryz.pinned (OpenSpec.ofChange planRowWrong)

/-- 'rubricklaw14.PlanHas': WHATEVER THE INPUT: true; the input reads as it did. -/
def planHasSpec : ChangeSpec := { name := "planHas", fn := fun _ => fun
  | [d1, d2] => { results := [.lit (.bool true)], args := [d1, d2] }
  | _ => none }
def planHasRow : OpenClaim := { program := "ytcmmooohmnjklaagreatdoor", sum := "d98a52519a9626f08ffa5ad28ae18dd1f5c6627007580a57c114649e6c755782", func := "rubrick/rubricklaw14.PlanHas", spec := "planHas", unfollowed := true, recurses := true, named := ["rubrick/utf.letters", "rubrick/utf.shifts", "rubrick/sha.begin", "rubrick/sha.rounds"], apart := false, laid := [("rubrick/sha.begin", laid_rubrick_sha_begin), ("rubrick/sha.rounds", laid_rubrick_sha_rounds), ("rubrick/utf.letters", laid_rubrick_utf_letters), ("rubrick/utf.shifts", laid_rubrick_utf_shifts)] }
def PlanHasSaid : Prop := planHasRow.holds Tryz.pinned (OpenSpec.ofChange planHasSpec)

/-- ITS FALSE NEIGHBOUR: 'it returns false'. Refute it at one input. -/
def planHasWrong : ChangeSpec := { name := "planHas", fn := fun _ => fun
  | [d1, d2] => { results := [.lit (.bool false)], args := [d1, d2] }
  | _ => none }
def PlanHasWrongFalsely : Prop := planHasRow.holds Tryz.pinned (OpenSpec.ofChange planHasWrong)

/-- 'rubricklaw15.HeadLog': WHATEVER THE INPUT: true; the input reads as it did. -/
def headLogSpec : ChangeSpec := { name := "headLog", fn := fun _ => fun
  | [d1, d2] => { results := [.lit (.bool true)], args := [d1, d2] }
  | _ => none }
def headLogRow : OpenClaim := { program := "ytcmmooohmnjklaagreatdoor", sum := "d98a52519a9626f08ffa5ad28ae18dd1f5c6627007580a57c114649e6c755782", func := "rubrick/rubricklaw15.HeadLog", spec := "headLog", unfollowed := true, recurses := true, named := ["rubrick/utf.letters", "rubrick/utf.shifts", "rubrick/sha.begin", "rubrick/sha.rounds"], apart := false, laid := [("rubrick/sha.begin", laid_rubrick_sha_begin), ("rubrick/sha.rounds", laid_rubrick_sha_rounds), ("rubrick/utf.letters", laid_rubrick_utf_letters), ("rubrick/utf.shifts", laid_rubrick_utf_shifts)] }
def HeadLogSaid : Prop := headLogRow.holds Tryz.pinned (OpenSpec.ofChange headLogSpec)

/-- ITS FALSE NEIGHBOUR: 'it returns false'. Refute it at one input. -/
def headLogWrong : ChangeSpec := { name := "headLog", fn := fun _ => fun
  | [d1, d2] => { results := [.lit (.bool false)], args := [d1, d2] }
  | _ => none }
def HeadLogWrongFalsely : Prop := headLogRow.holds Tryz.pinned (OpenSpec.ofChange headLogWrong)

/-- 'rubricklaw15.HeadGrows': WHATEVER THE INPUT: true; the input reads as it did. -/
def headGrowsSpec : ChangeSpec := { name := "headGrows", fn := fun _ => fun
  | [d1, d2] => { results := [.lit (.bool true)], args := [d1, d2] }
  | _ => none }
def headGrowsRow : OpenClaim := { program := "ytcmmooohmnjklaagreatdoor", sum := "d98a52519a9626f08ffa5ad28ae18dd1f5c6627007580a57c114649e6c755782", func := "rubrick/rubricklaw15.HeadGrows", spec := "headGrows", unfollowed := true, recurses := true, named := ["rubrick/utf.letters", "rubrick/utf.shifts", "rubrick/sha.begin", "rubrick/sha.rounds"], apart := false, laid := [("rubrick/sha.begin", laid_rubrick_sha_begin), ("rubrick/sha.rounds", laid_rubrick_sha_rounds), ("rubrick/utf.letters", laid_rubrick_utf_letters), ("rubrick/utf.shifts", laid_rubrick_utf_shifts)] }
def HeadGrowsSaid : Prop := headGrowsRow.holds Tryz.pinned (OpenSpec.ofChange headGrowsSpec)

/-- ITS FALSE NEIGHBOUR: 'it returns false'. Refute it at one input. -/
def headGrowsWrong : ChangeSpec := { name := "headGrows", fn := fun _ => fun
  | [d1, d2] => { results := [.lit (.bool false)], args := [d1, d2] }
  | _ => none }
def HeadGrowsWrongFalsely : Prop := headGrowsRow.holds Tryz.pinned (OpenSpec.ofChange headGrowsWrong)

/- THE SECOND FORM. 'bulk': how many values and letters a reading holds, each counted each time it is reached (what is shared counts as often as it is met; a slice's spare places count too). A statement '..UptoSaid' is the law's where the arguments, and the package variables that the reading takes, are together of bulk at most 1048576: NARROWER than '..Said'. Prove '..Said' where nothing that the law and all that it calls make is longer than what came in: it says more and counts as full. Else prove '..UptoSaid'. A law counts once. -/
mutual
def uptoBulk {H : Type} : DataW H → Nat
  | .lit (.string bytes) => bytes.length + 1
  | .lit _ => 1
  | .nil => 1
  | .ptr d => uptoBulk d + 1
  | .slice elems spare => uptoBulkAll elems + uptoBulkAll spare + 1
  | .agg parts => uptoBulkAll parts + 1
  | .iface _ d => uptoBulk d + 1
  | .map entries => uptoBulkEntries entries + 1
  | .held _ => 1
def uptoBulkAll {H : Type} : List (DataW H) → Nat
  | [] => 0
  | d :: r => uptoBulk d + uptoBulkAll r
def uptoBulkEntries {H : Type} : List (Lit × DataW H) → Nat
  | [] => 0
  | x :: r => uptoBulkEntry x + uptoBulkEntries r
def uptoBulkEntry {H : Type} : Lit × DataW H → Nat
  | (.string bytes, d) => bytes.length + uptoBulk d + 1
  | (_, d) => uptoBulk d + 1
 end
def uptoSmall : (H : Type) → List (DataW H) → Bool := fun _ ds => decide (uptoBulkAll ds ≤ 1048576)
def OpenSpec.upto (s : _root_.Go.ChangeSpec) : _root_.Go.OpenSpec := { _root_.Go.OpenSpec.ofChange s with cond := some uptoSmall }

/-- 'rubricklaw14.PlanRights', WHERE WHAT IT READS IS OF BULK AT MOST 1048576: true; the input reads as it did. -/
def planRightsUptoRow : OpenClaim := { program := "ytcmmooohmnjklaagreatdoor", sum := "d98a52519a9626f08ffa5ad28ae18dd1f5c6627007580a57c114649e6c755782", func := "rubrick/rubricklaw14.PlanRights", spec := "planRights", unfollowed := true, recurses := true, named := ["rubrick/utf.letters", "rubrick/utf.shifts", "rubrick/sha.begin", "rubrick/sha.rounds"], apart := false, laid := [("rubrick/sha.begin", laid_rubrick_sha_begin), ("rubrick/sha.rounds", laid_rubrick_sha_rounds), ("rubrick/utf.letters", laid_rubrick_utf_letters), ("rubrick/utf.shifts", laid_rubrick_utf_shifts)], narrowed := true }
def PlanRightsUptoSaid : Prop := planRightsUptoRow.holds Tryz.pinned (OpenSpec.upto planRightsSpec)

/-- 'rubricklaw14.PlanPlays', WHERE WHAT IT READS IS OF BULK AT MOST 1048576: true; the input reads as it did. -/
def planPlaysUptoRow : OpenClaim := { program := "ytcmmooohmnjklaagreatdoor", sum := "d98a52519a9626f08ffa5ad28ae18dd1f5c6627007580a57c114649e6c755782", func := "rubrick/rubricklaw14.PlanPlays", spec := "planPlays", unfollowed := true, recurses := true, named := ["rubrick/utf.letters", "rubrick/utf.shifts", "rubrick/sha.begin", "rubrick/sha.rounds"], apart := false, laid := [("rubrick/sha.begin", laid_rubrick_sha_begin), ("rubrick/sha.rounds", laid_rubrick_sha_rounds), ("rubrick/utf.letters", laid_rubrick_utf_letters), ("rubrick/utf.shifts", laid_rubrick_utf_shifts)], narrowed := true }
def PlanPlaysUptoSaid : Prop := planPlaysUptoRow.holds Tryz.pinned (OpenSpec.upto planPlaysSpec)

/-- 'rubricklaw14.PlanStays', WHERE WHAT IT READS IS OF BULK AT MOST 1048576: true; the input reads as it did. -/
def planStaysUptoRow : OpenClaim := { program := "ytcmmooohmnjklaagreatdoor", sum := "d98a52519a9626f08ffa5ad28ae18dd1f5c6627007580a57c114649e6c755782", func := "rubrick/rubricklaw14.PlanStays", spec := "planStays", unfollowed := true, recurses := true, named := ["rubrick/utf.letters", "rubrick/utf.shifts", "rubrick/sha.begin", "rubrick/sha.rounds"], apart := false, laid := [("rubrick/sha.begin", laid_rubrick_sha_begin), ("rubrick/sha.rounds", laid_rubrick_sha_rounds), ("rubrick/utf.letters", laid_rubrick_utf_letters), ("rubrick/utf.shifts", laid_rubrick_utf_shifts)], narrowed := true }
def PlanStaysUptoSaid : Prop := planStaysUptoRow.holds Tryz.pinned (OpenSpec.upto planStaysSpec)

/-- 'rubricklaw14.PlanKeeps', WHERE WHAT IT READS IS OF BULK AT MOST 1048576: true; the input reads as it did. -/
def planKeepsUptoRow : OpenClaim := { program := "ytcmmooohmnjklaagreatdoor", sum := "d98a52519a9626f08ffa5ad28ae18dd1f5c6627007580a57c114649e6c755782", func := "rubrick/rubricklaw14.PlanKeeps", spec := "planKeeps", unfollowed := true, recurses := true, named := ["rubrick/utf.letters", "rubrick/utf.shifts", "rubrick/sha.begin", "rubrick/sha.rounds"], apart := false, laid := [("rubrick/sha.begin", laid_rubrick_sha_begin), ("rubrick/sha.rounds", laid_rubrick_sha_rounds), ("rubrick/utf.letters", laid_rubrick_utf_letters), ("rubrick/utf.shifts", laid_rubrick_utf_shifts)], narrowed := true }
def PlanKeepsUptoSaid : Prop := planKeepsUptoRow.holds Tryz.pinned (OpenSpec.upto planKeepsSpec)

/-- 'rubricklaw15.HeadTells', WHERE WHAT IT READS IS OF BULK AT MOST 1048576: true; the input reads as it did. -/
def headTellsUptoRow : OpenClaim := { program := "ytcmmooohmnjklaagreatdoor", sum := "d98a52519a9626f08ffa5ad28ae18dd1f5c6627007580a57c114649e6c755782", func := "rubrick/rubricklaw15.HeadTells", spec := "headTells", unfollowed := true, recurses := true, named := ["rubrick/utf.letters", "rubrick/utf.shifts", "rubrick/sha.begin", "rubrick/sha.rounds"], apart := false, laid := [("rubrick/sha.begin", laid_rubrick_sha_begin), ("rubrick/sha.rounds", laid_rubrick_sha_rounds), ("rubrick/utf.letters", laid_rubrick_utf_letters), ("rubrick/utf.shifts", laid_rubrick_utf_shifts)], narrowed := true }
def HeadTellsUptoSaid : Prop := headTellsUptoRow.holds Tryz.pinned (OpenSpec.upto headTellsSpec)

/-- 'rubricklaw15.HeadBack', WHERE WHAT IT READS IS OF BULK AT MOST 1048576: true; the input reads as it did. -/
def headBackUptoRow : OpenClaim := { program := "ytcmmooohmnjklaagreatdoor", sum := "d98a52519a9626f08ffa5ad28ae18dd1f5c6627007580a57c114649e6c755782", func := "rubrick/rubricklaw15.HeadBack", spec := "headBack", unfollowed := true, recurses := true, named := ["rubrick/utf.letters", "rubrick/utf.shifts", "rubrick/sha.begin", "rubrick/sha.rounds"], apart := false, laid := [("rubrick/sha.begin", laid_rubrick_sha_begin), ("rubrick/sha.rounds", laid_rubrick_sha_rounds), ("rubrick/utf.letters", laid_rubrick_utf_letters), ("rubrick/utf.shifts", laid_rubrick_utf_shifts)], narrowed := true }
def HeadBackUptoSaid : Prop := headBackUptoRow.holds Tryz.pinned (OpenSpec.upto headBackSpec)

/-- 'rubricklaw15.HeadApart', WHERE WHAT IT READS IS OF BULK AT MOST 1048576: true; the input reads as it did. -/
def headApartUptoRow : OpenClaim := { program := "ytcmmooohmnjklaagreatdoor", sum := "d98a52519a9626f08ffa5ad28ae18dd1f5c6627007580a57c114649e6c755782", func := "rubrick/rubricklaw15.HeadApart", spec := "headApart", unfollowed := true, recurses := true, named := ["rubrick/utf.letters", "rubrick/utf.shifts", "rubrick/sha.begin", "rubrick/sha.rounds"], apart := false, laid := [("rubrick/sha.begin", laid_rubrick_sha_begin), ("rubrick/sha.rounds", laid_rubrick_sha_rounds), ("rubrick/utf.letters", laid_rubrick_utf_letters), ("rubrick/utf.shifts", laid_rubrick_utf_shifts)], narrowed := true }
def HeadApartUptoSaid : Prop := headApartUptoRow.holds Tryz.pinned (OpenSpec.upto headApartSpec)

/-- 'rubricklaw14.PlanRow', WHERE WHAT IT READS IS OF BULK AT MOST 1048576: true; the input reads as it did. -/
def planRowUptoRow : OpenClaim := { program := "ytcmmooohmnjklaagreatdoor", sum := "d98a52519a9626f08ffa5ad28ae18dd1f5c6627007580a57c114649e6c755782", func := "rubrick/rubricklaw14.PlanRow", spec := "planRow", unfollowed := true, recurses := true, named := ["rubrick/utf.letters", "rubrick/utf.shifts", "rubrick/sha.begin", "rubrick/sha.rounds"], apart := false, laid := [("rubrick/sha.begin", laid_rubrick_sha_begin), ("rubrick/sha.rounds", laid_rubrick_sha_rounds), ("rubrick/utf.letters", laid_rubrick_utf_letters), ("rubrick/utf.shifts", laid_rubrick_utf_shifts)], narrowed := true }
def PlanRowUptoSaid : Prop := planRowUptoRow.holds Tryz.pinned (OpenSpec.upto planRowSpec)

/-- 'rubricklaw14.PlanHas', WHERE WHAT IT READS IS OF BULK AT MOST 1048576: true; the input reads as it did. -/
def planHasUptoRow : OpenClaim := { program := "ytcmmooohmnjklaagreatdoor", sum := "d98a52519a9626f08ffa5ad28ae18dd1f5c6627007580a57c114649e6c755782", func := "rubrick/rubricklaw14.PlanHas", spec := "planHas", unfollowed := true, recurses := true, named := ["rubrick/utf.letters", "rubrick/utf.shifts", "rubrick/sha.begin", "rubrick/sha.rounds"], apart := false, laid := [("rubrick/sha.begin", laid_rubrick_sha_begin), ("rubrick/sha.rounds", laid_rubrick_sha_rounds), ("rubrick/utf.letters", laid_rubrick_utf_letters), ("rubrick/utf.shifts", laid_rubrick_utf_shifts)], narrowed := true }
def PlanHasUptoSaid : Prop := planHasUptoRow.holds Tryz.pinned (OpenSpec.upto planHasSpec)

/-- 'rubricklaw15.HeadLog', WHERE WHAT IT READS IS OF BULK AT MOST 1048576: true; the input reads as it did. -/
def headLogUptoRow : OpenClaim := { program := "ytcmmooohmnjklaagreatdoor", sum := "d98a52519a9626f08ffa5ad28ae18dd1f5c6627007580a57c114649e6c755782", func := "rubrick/rubricklaw15.HeadLog", spec := "headLog", unfollowed := true, recurses := true, named := ["rubrick/utf.letters", "rubrick/utf.shifts", "rubrick/sha.begin", "rubrick/sha.rounds"], apart := false, laid := [("rubrick/sha.begin", laid_rubrick_sha_begin), ("rubrick/sha.rounds", laid_rubrick_sha_rounds), ("rubrick/utf.letters", laid_rubrick_utf_letters), ("rubrick/utf.shifts", laid_rubrick_utf_shifts)], narrowed := true }
def HeadLogUptoSaid : Prop := headLogUptoRow.holds Tryz.pinned (OpenSpec.upto headLogSpec)

/-- 'rubricklaw15.HeadGrows', WHERE WHAT IT READS IS OF BULK AT MOST 1048576: true; the input reads as it did. -/
def headGrowsUptoRow : OpenClaim := { program := "ytcmmooohmnjklaagreatdoor", sum := "d98a52519a9626f08ffa5ad28ae18dd1f5c6627007580a57c114649e6c755782", func := "rubrick/rubricklaw15.HeadGrows", spec := "headGrows", unfollowed := true, recurses := true, named := ["rubrick/utf.letters", "rubrick/utf.shifts", "rubrick/sha.begin", "rubrick/sha.rounds"], apart := false, laid := [("rubrick/sha.begin", laid_rubrick_sha_begin), ("rubrick/sha.rounds", laid_rubrick_sha_rounds), ("rubrick/utf.letters", laid_rubrick_utf_letters), ("rubrick/utf.shifts", laid_rubrick_utf_shifts)], narrowed := true }
def HeadGrowsUptoSaid : Prop := headGrowsUptoRow.holds Tryz.pinned (OpenSpec.upto headGrowsSpec)

end Rows
end Go.Proofs.YtcmmooohmnjklaaGreatDoor
