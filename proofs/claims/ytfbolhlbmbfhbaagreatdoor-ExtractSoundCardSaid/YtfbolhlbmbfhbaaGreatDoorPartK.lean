import Derived.Test.YtfbolhlbmbfhbaaGreatDoorPartJ
import Derived.Test.YtfbolhlbmbfhbaaGreatDoorCards
import Derived.Test.YtfbolhlbmbfhbaaGreatDoorTie
import Derived.Deep.DeepHandedRow
import Derived.ProofKit
import Derived.OpenShut
set_option linter.unusedVariables false
set_option linter.unusedSimpArgs false
set_option linter.unusedSectionVars false
set_option linter.defProp false
namespace Go.Proofs.YtfbolhlbmbfhbaaGreatDoor
open Go Go.Vg Go.ChangeShapes Go.WideShapes Go.ChangeAt Go.RowKit
def Lu:Tryz.pinned.checked.prog.funcNamed Rows.extractSoundRow.func=some 3:=by kernel_rfl
theorem JB:(Rows.extractSoundRow.inPlace==Tryz.pinned.checked.prog.inPlace 3)=true:=by kernel_rfl
theorem JC:(Rows.extractSoundRow.unfollowed==Tryz.pinned.checked.prog.unfollowed 3)=true:=by kernel_rfl
theorem JD:(Rows.extractSoundRow.recurses==Tryz.pinned.checked.prog.recurses 3)=true:=by kernel_rfl
theorem JE:(Rows.extractSoundRow.named==Tryz.pinned.checked.prog.varsNamed 3)=true:=by kernel_rfl
def Lv:joinedFacts Tryz.pinned.checked.prog 3 Tryz.f3 (OpenSpec.ofChange Rows.extractSoundSpec).bare Rows.extractSoundRow=true:=by
 unfold joinedFacts;rw[JB,JC,JD,JE];kernel_rfl
end Go.Proofs.YtfbolhlbmbfhbaaGreatDoor
