import Derived.Test.YtoakoffdjeleoaaGreatKb11
import Derived.Test.YtoakoffdjeleoaaGreatKb13
import Derived.Test.YtoakoffdjeleoaaGreatRows
import Derived.JoinedOf
import Derived.KernelRfl
set_option linter.unusedVariables false
set_option linter.unusedSimpArgs false
set_option linter.unusedSectionVars false
section
namespace Go.Proofs.YtoakoffdjeleoaaGreat
set_option maxRecDepth 100000
theorem bt7 {a b : Bool} (h : a = true) (k : b = true) : (a && b) = true := by rw [h, k]; rfl
theorem fx7_wf : (Rows.creditFamiliesRow.wf (OpenSpec.ofChange Rows.creditFamiliesSpec)) = true := by kernel_rfl
theorem fx7_lay : (laidOutB Tryz.pinned.checked.prog) = true := pf_lay
theorem fx7_mro : (mapsRowed Tryz.pinned.checked.prog) = true := pf_mro
theorem fx7_par : (Tryz.f7.params.all (Tryz.pinned.checked.prog.readableRec ·)) = true := by kernel_rfl
theorem fx7_nti : (namedTie Tryz.pinned.checked.prog Rows.creditFamiliesRow.named Rows.creditFamiliesSpec.vars) = true := by kernel_rfl
theorem fx7_st1 : (Rows.creditFamiliesRow.stops == []) = true := by kernel_rfl
theorem fx7_st2 : (Tryz.pinned.checked.prog.stops == []) = true := pf_st2
theorem fx7_kn1 : (Rows.creditFamiliesRow.knobs == []) = true := by kernel_rfl
theorem fx7_kn2 : (Tryz.pinned.checked.prog.stopKnobs == []) = true := pf_kn2
theorem fx7_inp : (Rows.creditFamiliesRow.inPlace == Tryz.pinned.checked.prog.inPlace 7) = true := by kernel_rfl
theorem fx7_unf : (Rows.creditFamiliesRow.unfollowed == Tryz.pinned.checked.prog.unfollowed 7) = true := by kernel_rfl
theorem fx7_rec : (Rows.creditFamiliesRow.recurses == Tryz.pinned.checked.prog.recurses 7) = true := by kernel_rfl
theorem fx7_nam : (Rows.creditFamiliesRow.named == Tryz.pinned.checked.prog.varsNamed 7) = true := by kernel_rfl
theorem fx7_map : (Rows.creditFamiliesRow.maps == (Tryz.f7.params.toList ++ Rows.creditFamiliesSpec.plain.varTypes Tryz.pinned.checked.prog).any (Tryz.pinned.checked.prog.mapsRec ·)) = true := by kernel_rfl
theorem fx7_ifa : (Rows.creditFamiliesRow.ifaces == (Tryz.f7.params.toList ++ Rows.creditFamiliesSpec.plain.varTypes Tryz.pinned.checked.prog).any (Tryz.pinned.checked.prog.ifacesRec ·)) = true := by kernel_rfl
theorem fx7_mao : (Rows.creditFamiliesRow.mapsOut == Tryz.pinned.checked.prog.mapsAmong Tryz.f7.resultTypes.toList) = true := by kernel_rfl
theorem fx7_loo : (Rows.creditFamiliesRow.loops == (Tryz.f7.params.toList ++ Rows.creditFamiliesSpec.plain.varTypes Tryz.pinned.checked.prog).any (Tryz.pinned.checked.prog.loopsFrom ·)) = true := by kernel_rfl
theorem fx7_wik : (Rows.creditFamiliesRow.wideKeys == (Tryz.f7.params.toList ++ Rows.creditFamiliesSpec.plain.varTypes Tryz.pinned.checked.prog ++ Tryz.f7.resultTypes.toList).any (Tryz.pinned.checked.prog.wideKeysFrom ·)) = true := by kernel_rfl
theorem fx7_var : (Rows.creditFamiliesSpec.vars.all (Tryz.pinned.checked.prog.varReadable ·)) = true := by kernel_rfl
theorem fx7_res : (Tryz.f7.resultTypes.all (fun t => Tryz.pinned.checked.prog.readableRec t && decide (t < Tryz.pinned.checked.prog.types.size))) = true := by kernel_rfl
theorem fx7_ifo : (Rows.creditFamiliesRow.ifacesOut == Tryz.f7.resultTypes.toList.any (Tryz.pinned.checked.prog.ifacesRec ·)) = true := by kernel_rfl
theorem fx7_lou : (Rows.creditFamiliesRow.loopsOut == Tryz.f7.resultTypes.toList.any (Tryz.pinned.checked.prog.loopsFrom ·)) = true := by kernel_rfl
theorem fx7_plk : (Rows.creditFamiliesRow.plainKeys == Tryz.pinned.checked.prog.plainKeys) = true := pf_plk
theorem fx7_sho : (Rows.creditFamiliesRow.shortTexts.isNone) = true := by kernel_rfl
theorem fx7_sth : (Tryz.pinned.checked.prog.stopsHeard) = true := pf_sth
theorem fx7_may : (Tryz.pinned.checked.prog.mayEnter) = true := pf_may
theorem fx7_lif : (Rows.creditFamiliesRow.lifted == Tryz.pinned.checked.prog.liftsFinal) = true := pf_lif
theorem fx7_mak : (Tryz.pinned.checked.prog.make == some Rows.creditFamiliesRow.make) = true := pf_mak
theorem fx7_kin : (Rows.creditFamiliesRow.kinds == (if Rows.creditFamiliesRow.domain.isEmpty then [] else Tryz.f7.params.toList.map fun t => match Tryz.pinned.checked.prog.underlying t with | some (.int k) => some k | _ => none)) = true := by kernel_rfl
theorem fx7_pin : (Rows.creditFamiliesRow.pinned == Rows.creditFamiliesRow.pinnedBy) = true := by kernel_rfl
theorem fx7_vei : (Rows.creditFamiliesRow.veiled == (Tryz.f7.params.toList ++ Rows.creditFamiliesSpec.plain.varTypes Tryz.pinned.checked.prog ++ Tryz.f7.resultTypes.toList).any (Tryz.pinned.checked.prog.veiledRec ·)) = true := by kernel_rfl
theorem fx7_vef : (Rows.creditFamiliesRow.veiledFits Tryz.pinned.checked.prog Tryz.f7.params.toList (Tryz.f7.params.toList ++ Rows.creditFamiliesSpec.plain.varTypes Tryz.pinned.checked.prog ++ Tryz.f7.resultTypes.toList)) = true := by kernel_rfl
theorem facts7 : joinedFacts Tryz.pinned.checked.prog 7 Tryz.f7 Rows.creditFamiliesSpec Rows.creditFamiliesRow = true := (bt7 (bt7 (bt7 (bt7 (bt7 (bt7 (bt7 (bt7 (bt7 (bt7 (bt7 (bt7 (bt7 (bt7 (bt7 (bt7 (bt7 (bt7 (bt7 (bt7 (bt7 (bt7 (bt7 (bt7 (bt7 (bt7 (bt7 (bt7 (bt7 (bt7 (bt7 fx7_wf fx7_lay) fx7_mro) fx7_par) fx7_nti) fx7_st1) fx7_st2) fx7_kn1) fx7_kn2) fx7_inp) fx7_unf) fx7_rec) fx7_nam) fx7_map) fx7_ifa) fx7_mao) fx7_loo) fx7_wik) fx7_var) fx7_res) fx7_ifo) fx7_lou) fx7_plk) fx7_sho) fx7_sth) fx7_may) fx7_lif) fx7_mak) fx7_kin) fx7_pin) fx7_vei) fx7_vef)
end Go.Proofs.YtoakoffdjeleoaaGreat
end
