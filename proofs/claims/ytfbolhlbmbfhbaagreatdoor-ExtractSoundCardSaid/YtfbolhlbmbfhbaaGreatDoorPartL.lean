import Derived.Test.YtfbolhlbmbfhbaaGreatDoorPartK
import Derived.Test.YtfbolhlbmbfhbaaGreatDoorCards
import Derived.Test.YtfbolhlbmbfhbaaGreatDoorTie
import Derived.Deep.DeepHandedRow
import Derived.ProofKit
import Derived.OpenShut
set_option linter.unusedVariables false
set_option linter.unusedSimpArgs false
set_option linter.unusedSectionVars false
set_option linter.defProp false
namespace Go.Proofs.YtfbolhlbmbfhbaaGreatDoor
open Go Go.Vg Go.ChangeShapes Go.WideShapes Go.ChangeAt Go.RowKit
def Lw:Tryz.f3.isInstance Tryz.pinned.checked.prog Rows.extractSoundRow.origin Rows.extractSoundRow.targs:=of_decide_eq_true y!
theorem Lx:Tryz.f3.isWrapper Tryz.pinned.checked.prog Rows.extractSoundRow.wrapper Rows.extractSoundRow.mainSum:=by unfold Func.isWrapper;first|(rw[if_pos (by decide+kernel)];kernel_rfl)|(rw[if_neg (by decide+kernel)];exact⟨rfl,rfl⟩)
def Hg:Rows.ExtractSoundSaid:=
 OpenClaim.holds_of_cond 3 Tryz.f3 rfl rfl rfl rfl rfl rfl rfl ⟨rfl,rfl,rfl,rfl,rfl⟩ rfl rfl rfl rfl rfl Lu Tryz.func3 Lv Lw Lx
  (λo s H e _ F=>by rw[OpenClaim.pre_eq_preRow];exact DL o s H e F)
end Go.Proofs.YtfbolhlbmbfhbaaGreatDoor
