import Derived.Test.YtfbolhlbmbfhbaaGreatDoorPartL
import Derived.Test.YtfbolhlbmbfhbaaGreatDoorCards
import Derived.Test.YtfbolhlbmbfhbaaGreatDoorTie
import Derived.Deep.DeepHandedRow
import Derived.ProofKit
import Derived.OpenShut
set_option linter.unusedVariables false
set_option linter.unusedSimpArgs false
set_option linter.unusedSectionVars false
set_option linter.defProp false
set_option linter.unusedVariables false
namespace Go.Proofs.YtfbolhlbmbfhbaaGreatDoor
open Go Go.Vg Go.ChangeShapes Go.WideShapes Go.ChangeAt Go.RowKit
theorem Ef(f:FuncId)(fn:Func)(hf:Tryz.pinned.checked.prog.funcNamed "rubrick/rubricklaw21.ExtractPages"=some f)(Ux:Tryz.pinned.checked.prog.funcs[f]? =some fn):
  false=Tryz.pinned.checked.prog.looks []/\∀(j:Nat) t,fn.params[j]? =some t->Tryz.pinned.checked.prog.wantsStandIn t=false:=by
 obtain rfl :f=4:=V? ((show Tryz.prog.funcNamed "rubrick/rubricklaw21.ExtractPages"=some 4 by kernel_rfl).symm.trans hf) |>.symm
 obtain rfl :fn=Tryz.f4:=(V? (Tryz.func4.symm.trans Ux)).symm;refine⟨y!,λj t ht=>?_⟩;have h1:(Tryz.f4.params.toList.all λt=>!Tryz.prog.wantsStandIn t)=true:=by kernel_rfl
 have h2:=B?.1 h1 t (by simpa using Array.mem_of_getElem? ht);have h3:Tryz.prog.wantsStandIn t=false:=by simpa using h2
 exact h3
theorem goesW:false=Rows.extractPagesRow.goesBy Tryz.pinned.checked.prog:=by kernel_rfl
theorem wfW:Rows.extractPagesRow.wfByText (OpenSpec.ofChange Rows.extractPagesSpec)=true:=by kernel_rfl
end Go.Proofs.YtfbolhlbmbfhbaaGreatDoor
