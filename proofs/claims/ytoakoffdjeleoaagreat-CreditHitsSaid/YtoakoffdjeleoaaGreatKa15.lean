import Derived.Test.YtoakoffdjeleoaaGreatKa12
import Derived.Test.YtoakoffdjeleoaaGreatKa14
import Derived.Test.YtoakoffdjeleoaaGreatRows
import Derived.JoinedOf
import Derived.KernelRfl
set_option linter.unusedVariables false
set_option linter.unusedSimpArgs false
set_option linter.unusedSectionVars false
section
namespace Go.Proofs.YtoakoffdjeleoaaGreat
set_option maxRecDepth 100000
theorem bt8 {a b : Bool} (h : a = true) (k : b = true) : (a && b) = true := by rw [h, k]; rfl
theorem fx8_wf : (Rows.creditHitsRow.wf (OpenSpec.ofChange Rows.creditHitsSpec)) = true := by kernel_rfl
theorem fx8_lay : (laidOutB Tryz.pinned.checked.prog) = true := pf_lay
theorem fx8_mro : (mapsRowed Tryz.pinned.checked.prog) = true := pf_mro
theorem fx8_par : (Tryz.f8.params.all (Tryz.pinned.checked.prog.readableRec ·)) = true := by kernel_rfl
theorem fx8_nti : (namedTie Tryz.pinned.checked.prog Rows.creditHitsRow.named Rows.creditHitsSpec.vars) = true := by kernel_rfl
theorem fx8_st1 : (Rows.creditHitsRow.stops == []) = true := by kernel_rfl
theorem fx8_st2 : (Tryz.pinned.checked.prog.stops == []) = true := pf_st2
theorem fx8_kn1 : (Rows.creditHitsRow.knobs == []) = true := by kernel_rfl
theorem fx8_kn2 : (Tryz.pinned.checked.prog.stopKnobs == []) = true := pf_kn2
theorem fx8_inp : (Rows.creditHitsRow.inPlace == Tryz.pinned.checked.prog.inPlace 8) = true := by kernel_rfl
theorem fx8_unf : (Rows.creditHitsRow.unfollowed == Tryz.pinned.checked.prog.unfollowed 8) = true := by kernel_rfl
theorem fx8_rec : (Rows.creditHitsRow.recurses == Tryz.pinned.checked.prog.recurses 8) = true := by kernel_rfl
theorem fx8_nam : (Rows.creditHitsRow.named == Tryz.pinned.checked.prog.varsNamed 8) = true := by kernel_rfl
theorem fx8_map : (Rows.creditHitsRow.maps == (Tryz.f8.params.toList ++ Rows.creditHitsSpec.plain.varTypes Tryz.pinned.checked.prog).any (Tryz.pinned.checked.prog.mapsRec ·)) = true := by kernel_rfl
theorem fx8_ifa : (Rows.creditHitsRow.ifaces == (Tryz.f8.params.toList ++ Rows.creditHitsSpec.plain.varTypes Tryz.pinned.checked.prog).any (Tryz.pinned.checked.prog.ifacesRec ·)) = true := by kernel_rfl
theorem fx8_mao : (Rows.creditHitsRow.mapsOut == Tryz.pinned.checked.prog.mapsAmong Tryz.f8.resultTypes.toList) = true := by kernel_rfl
theorem fx8_loo : (Rows.creditHitsRow.loops == (Tryz.f8.params.toList ++ Rows.creditHitsSpec.plain.varTypes Tryz.pinned.checked.prog).any (Tryz.pinned.checked.prog.loopsFrom ·)) = true := by kernel_rfl
theorem fx8_wik : (Rows.creditHitsRow.wideKeys == (Tryz.f8.params.toList ++ Rows.creditHitsSpec.plain.varTypes Tryz.pinned.checked.prog ++ Tryz.f8.resultTypes.toList).any (Tryz.pinned.checked.prog.wideKeysFrom ·)) = true := by kernel_rfl
theorem fx8_var : (Rows.creditHitsSpec.vars.all (Tryz.pinned.checked.prog.varReadable ·)) = true := by kernel_rfl
theorem fx8_res : (Tryz.f8.resultTypes.all (fun t => Tryz.pinned.checked.prog.readableRec t && decide (t < Tryz.pinned.checked.prog.types.size))) = true := by kernel_rfl
theorem fx8_ifo : (Rows.creditHitsRow.ifacesOut == Tryz.f8.resultTypes.toList.any (Tryz.pinned.checked.prog.ifacesRec ·)) = true := by kernel_rfl
theorem fx8_lou : (Rows.creditHitsRow.loopsOut == Tryz.f8.resultTypes.toList.any (Tryz.pinned.checked.prog.loopsFrom ·)) = true := by kernel_rfl
theorem fx8_plk : (Rows.creditHitsRow.plainKeys == Tryz.pinned.checked.prog.plainKeys) = true := pf_plk
theorem fx8_sho : (Rows.creditHitsRow.shortTexts.isNone) = true := by kernel_rfl
theorem fx8_sth : (Tryz.pinned.checked.prog.stopsHeard) = true := pf_sth
theorem fx8_may : (Tryz.pinned.checked.prog.mayEnter) = true := pf_may
theorem fx8_lif : (Rows.creditHitsRow.lifted == Tryz.pinned.checked.prog.liftsFinal) = true := pf_lif
theorem fx8_mak : (Tryz.pinned.checked.prog.make == some Rows.creditHitsRow.make) = true := pf_mak
theorem fx8_kin : (Rows.creditHitsRow.kinds == (if Rows.creditHitsRow.domain.isEmpty then [] else Tryz.f8.params.toList.map fun t => match Tryz.pinned.checked.prog.underlying t with | some (.int k) => some k | _ => none)) = true := by kernel_rfl
theorem fx8_pin : (Rows.creditHitsRow.pinned == Rows.creditHitsRow.pinnedBy) = true := by kernel_rfl
theorem fx8_vei : (Rows.creditHitsRow.veiled == (Tryz.f8.params.toList ++ Rows.creditHitsSpec.plain.varTypes Tryz.pinned.checked.prog ++ Tryz.f8.resultTypes.toList).any (Tryz.pinned.checked.prog.veiledRec ·)) = true := by kernel_rfl
theorem fx8_vef : (Rows.creditHitsRow.veiledFits Tryz.pinned.checked.prog Tryz.f8.params.toList (Tryz.f8.params.toList ++ Rows.creditHitsSpec.plain.varTypes Tryz.pinned.checked.prog ++ Tryz.f8.resultTypes.toList)) = true := by kernel_rfl
theorem facts8 : joinedFacts Tryz.pinned.checked.prog 8 Tryz.f8 Rows.creditHitsSpec Rows.creditHitsRow = true := (bt8 (bt8 (bt8 (bt8 (bt8 (bt8 (bt8 (bt8 (bt8 (bt8 (bt8 (bt8 (bt8 (bt8 (bt8 (bt8 (bt8 (bt8 (bt8 (bt8 (bt8 (bt8 (bt8 (bt8 (bt8 (bt8 (bt8 (bt8 (bt8 (bt8 (bt8 fx8_wf fx8_lay) fx8_mro) fx8_par) fx8_nti) fx8_st1) fx8_st2) fx8_kn1) fx8_kn2) fx8_inp) fx8_unf) fx8_rec) fx8_nam) fx8_map) fx8_ifa) fx8_mao) fx8_loo) fx8_wik) fx8_var) fx8_res) fx8_ifo) fx8_lou) fx8_plk) fx8_sho) fx8_sth) fx8_may) fx8_lif) fx8_mak) fx8_kin) fx8_pin) fx8_vei) fx8_vef)
end Go.Proofs.YtoakoffdjeleoaaGreat
end
