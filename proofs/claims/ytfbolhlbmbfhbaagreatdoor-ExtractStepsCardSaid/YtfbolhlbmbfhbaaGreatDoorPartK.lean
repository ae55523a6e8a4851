import Derived.Test.YtfbolhlbmbfhbaaGreatDoorPartJ
import Derived.Test.YtfbolhlbmbfhbaaGreatDoorCards
import Derived.Test.YtfbolhlbmbfhbaaGreatDoorTie
import Derived.Deep.DeepHandedRow
import Derived.ProofKit
import Derived.OpenShut
set_option linter.unusedVariables false
set_option linter.unusedSimpArgs false
set_option linter.unusedSectionVars false
set_option linter.defProp false
namespace Go.Proofs.YtfbolhlbmbfhbaaGreatDoor
open Go Go.Vg Go.ChangeShapes Go.WideShapes Go.ChangeAt Go.RowKit
def aQy:Tryz.pinned.checked.prog.funcNamed Rows.extractStepsRow.func=some 6:=by kernel_rfl
theorem aPS:(Rows.extractStepsRow.inPlace==Tryz.pinned.checked.prog.inPlace 6)=true:=by kernel_rfl
theorem aPT:(Rows.extractStepsRow.unfollowed==Tryz.pinned.checked.prog.unfollowed 6)=true:=by kernel_rfl
theorem aPU:(Rows.extractStepsRow.recurses==Tryz.pinned.checked.prog.recurses 6)=true:=by kernel_rfl
theorem aPW:(Rows.extractStepsRow.named==Tryz.pinned.checked.prog.varsNamed 6)=true:=by kernel_rfl
def aQz:joinedFacts Tryz.pinned.checked.prog 6 Tryz.f6 (OpenSpec.ofChange Rows.extractStepsSpec).bare Rows.extractStepsRow=true:=by
 unfold joinedFacts;rw[aPS,aPT,aPU,aPW];kernel_rfl
end Go.Proofs.YtfbolhlbmbfhbaaGreatDoor
