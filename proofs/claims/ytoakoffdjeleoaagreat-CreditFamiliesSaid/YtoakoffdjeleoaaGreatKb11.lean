import Derived.Test.YtoakoffdjeleoaaGreatKb00
import Derived.Test.YtoakoffdjeleoaaGreatRows
import Derived.JoinedOf
import Derived.KernelRfl
set_option linter.unusedVariables false
set_option linter.unusedSimpArgs false
set_option linter.unusedSectionVars false
section
namespace Go.Proofs.YtoakoffdjeleoaaGreat
set_option maxRecDepth 100000
theorem pf_lay : (laidOutB Tryz.pinned.checked.prog) = true := by kernel_rfl
theorem pf_mro : (mapsRowed Tryz.pinned.checked.prog) = true := by kernel_rfl
theorem pf_st2 : (Tryz.pinned.checked.prog.stops == []) = true := by kernel_rfl
theorem pf_kn2 : (Tryz.pinned.checked.prog.stopKnobs == []) = true := by kernel_rfl
theorem pf_plk : (Rows.creditHitsRow.plainKeys == Tryz.pinned.checked.prog.plainKeys) = true := by kernel_rfl
theorem pf_sth : (Tryz.pinned.checked.prog.stopsHeard) = true := by kernel_rfl
end Go.Proofs.YtoakoffdjeleoaaGreat
end
