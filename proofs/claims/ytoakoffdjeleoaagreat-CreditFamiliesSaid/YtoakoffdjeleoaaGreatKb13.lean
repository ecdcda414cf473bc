import Derived.Test.YtoakoffdjeleoaaGreatKb12
import Derived.JoinedOf
import Derived.KernelRfl
set_option linter.unusedVariables false
set_option linter.unusedSimpArgs false
set_option linter.unusedSectionVars false
section
namespace Go.Proofs.YtoakoffdjeleoaaGreat
set_option maxRecDepth 100000
theorem make_of {P : Program} {rest : List (List Char)} (h : behindMainWord (wordsSigns P.initOrder.toList) = ['c', 'u', 't'] :: rest) : P.make = some .cut := by
  unfold Program.make
  rw [h]
  rfl
theorem strip_cut (rest : List (List Char)) : stripLifts liftWords (['c', 'u', 't'] :: rest) = ([], ['c', 'u', 't'] :: rest) := by rfl
theorem may_of {P : Program} {rest : List (List Char)} (h : behindMainWord (wordsSigns P.initOrder.toList) = ['c', 'u', 't'] :: rest) (h1 : P.laysLater = false) (h2 : P.bearsReflect = false) (h3 : P.doorRows = []) : P.mayEnter = true := by
  unfold Program.mayEnter
  rw [h]
  dsimp only
  rw [strip_cut]
  simp [h1, h2, Program.doorFits, h3]
theorem pf_ll : Tryz.pinned.checked.prog.laysLater = false := by kernel_rfl
theorem pf_br : Tryz.pinned.checked.prog.bearsReflect = false := by kernel_rfl
theorem pf_dr : Tryz.pinned.checked.prog.doorRows = [] := by kernel_rfl
theorem pf_may : (Tryz.pinned.checked.prog.mayEnter) = true := may_of pf_ws pf_ll pf_br pf_dr
theorem pf_mak : (Tryz.pinned.checked.prog.make == some Rows.creditHitsRow.make) = true := by
  rw [make_of pf_ws]
  kernel_rfl
theorem pf_lif : (Rows.creditHitsRow.lifted == Tryz.pinned.checked.prog.liftsFinal) = true := by
  unfold Program.liftsFinal Program.headLifts
  rw [pf_ws]
  kernel_rfl
end Go.Proofs.YtoakoffdjeleoaaGreat
end
