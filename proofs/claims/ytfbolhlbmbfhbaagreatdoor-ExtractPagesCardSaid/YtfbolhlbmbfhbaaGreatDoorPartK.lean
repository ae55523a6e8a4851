import Derived.Test.YtfbolhlbmbfhbaaGreatDoorPartJ
import Derived.Test.YtfbolhlbmbfhbaaGreatDoorCards
import Derived.Test.YtfbolhlbmbfhbaaGreatDoorTie
import Derived.Deep.DeepHandedRow
import Derived.ProofKit
import Derived.OpenShut
set_option linter.unusedVariables false
set_option linter.unusedSimpArgs false
set_option linter.unusedSectionVars false
set_option linter.defProp false
set_option linter.unusedVariables false
namespace Go.Proofs.YtfbolhlbmbfhbaaGreatDoor
open Go Go.Vg Go.ChangeShapes Go.WideShapes Go.ChangeAt Go.RowKit
theorem KI:Tryz.pinned.checked.prog.funcNamed Rows.extractPagesRow.func=some 4:=by kernel_rfl
theorem IN:(Rows.extractPagesRow.inPlace==Tryz.pinned.checked.prog.inPlace 4)=true:=by kernel_rfl
theorem IP:(Rows.extractPagesRow.unfollowed==Tryz.pinned.checked.prog.unfollowed 4)=true:=by kernel_rfl
theorem IQ:(Rows.extractPagesRow.recurses==Tryz.pinned.checked.prog.recurses 4)=true:=by kernel_rfl
theorem IS:(Rows.extractPagesRow.named==Tryz.pinned.checked.prog.varsNamed 4)=true:=by kernel_rfl
theorem KJ:joinedFacts Tryz.pinned.checked.prog 4 Tryz.f4 (OpenSpec.ofChange Rows.extractPagesSpec).bare Rows.extractPagesRow=true:=by
 unfold joinedFacts;rw[IN,IP,IQ,IS];kernel_rfl
end Go.Proofs.YtfbolhlbmbfhbaaGreatDoor
