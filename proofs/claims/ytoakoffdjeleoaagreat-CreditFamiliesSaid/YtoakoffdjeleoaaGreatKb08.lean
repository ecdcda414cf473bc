import Derived.Test.YtoakoffdjeleoaaGreatKb07
import Derived.Test.YtoakoffdjeleoaaGreatKb02
import Derived.Test.YtoakoffdjeleoaaGreatKb03
import Derived.Test.YtoakoffdjeleoaaGreatKb00
import Derived.Recover
import Derived.Shelf.Slices.CompactI
import Derived.Shelf.Slices.Delete
import Derived.Shelf.Slices.Empties
import Derived.Shelf.Spec.SlicesGrow
import Derived.Test.YtoakoffdjeleoaaGreatProg
set_option linter.unusedVariables false
set_option linter.unusedSimpArgs false
set_option linter.unusedSectionVars false
section
set_option maxRecDepth 4000
set_option maxHeartbeats 4000000
namespace Go.Proofs.YtoakoffdjeleoaaGreat
open Go.RowKit Go.Shelf
attribute [local irreducible] BS.narrow BS.lookL BS.findE BS.findR BS.volMax BS.parts BS.checkP BS.solE BS.solR BS.solveR BS.furtherR BS.onlyP BS.decideP BS.formedB BS.checkB BS.subsetsL BS.onlyB sortI BS.minimalF
theorem filter_snoc {α : Type} (p : α → Bool) (l : List α) (x : α) : (l ++ [x]).filter p = l.filter p ++ if p x = true then [x] else [] := by
 rw [List.filter_append]
 congr 1
 cases h : p x <;> simp [h]
theorem subs_sets {I : List Int} (hI : I.Pairwise (· < ·)) {p : List Int → Bool} : BS.Sets ((BS.subsetsL I).filter p) := fun s hs => ((BS.mem_subs hI).1 (List.mem_filter.1 hs).1).1
theorem svs_small {I : List Int} {L : List (Sv Int)} {p : List Int → Bool} (h : svs L = (BS.subsetsL I).filter p) (hn : I.length ≤ 16) : L.length ≤ 1000000 ∧ ∀ s ∈ L, s.l.length ≤ 1000000 := by
 constructor
 ·have h1 := congrArg List.length h;rw [List.length_map] at h1;have h2 := List.length_filter_le p (BS.subsetsL I);have h3 := BS.subs_count I;have h4 : 2 ^ I.length ≤ 2 ^ 16 := Nat.pow_le_pow_right (by omega) hn;omega
 ·intro s hs;have h1 : s.l ∈ svs L := List.mem_map_of_mem hs;rw [h] at h1;exact Nat.le_trans (BS.subs_len (List.mem_filter.1 h1).1) (by omega)
theorem pre_small {I : List Int} {pre : List (List Int)} {x : List Int} {L : List (Sv Int)} {p : List Int → Bool} (hp : (pre ++ [x]) <+: BS.subsetsL I) (h : svs L = pre.filter p) (hn : I.length ≤ 16) : L.length ≤ 65536 := by
 have h1 := congrArg List.length h;rw [List.length_map] at h1;have h2 := List.length_filter_le p pre;have h3 := BS.subs_count I;have h4 : 2 ^ I.length ≤ 2 ^ 16 := Nat.pow_le_pow_right (by omega) hn;have h5 := hp.length_le;rw [List.length_append] at h5;simp at h5;omega
theorem contradictions_cg {H : Gh} {Aw Aa A B Ai : Option Addr} {cw ca c d ci mi gm : Nat} (W : List BS.Wi) (C : List BS.Ac) (l : List BS.Bx) (F : List BS.Fc) (I : List Int) (hW : GRow H Aw cw encWi 3 W) (hC : GRow H Aa ca encAc 2 C) (hl : GRow H A c encBx 4 l) (hF : GRow H B d encFc 9 F) (hIds : GRow H Ai ci encI 1 I) (hIm : mi = I.length) {kv : KV ByteArray} {ff : ByteArray → Bool} (hgm : H gm = some (mapObj mkS kv)) (hkv : MapIs kv (.bool false) Value.bool ff) (hIs : I.Pairwise (· < ·)) (hIn : I.length ≤ 16) : Cg Tryz.prog 91 [.agg [.slice Aw W.length cw, .slice Aa C.length ca, .slice A l.length c, .slice B F.length d, .slice Ai mi ci, .map (some gm)].toArray] H (fun H' v => ∃ A c M, v = .slice A M.length c ∧ GRow H' A c encS 1 M ∧ GSets H' encI 1 M ∧ svs M = BS.minimalF ((BS.subsetsL I).filter fun s => !(ff (keyB s)))) (fun _ => False) := by
 refine cgm_of Tryz.func91 rfl Tryz.ntmps91 rfl fun w0 hw => ?_;refine b_seq ?_;refine b_of ?_;refine c_region ?_;refine lbx ([.slice Aw W.length cw, .slice Aa C.length ca, .slice A l.length c, .slice B F.length d, .slice Ai mi ci, .map (some gm)]) (fun m1 hm2 => ?_);refine la ?_;refine l_end ?_;refine x_nx ?_;refine b_seq ?_;refine b_of ?_;refine c_region ?_;refine lal (fun m3 hm4 => ?_);refine l_end ?_;refine x_nx ?_;refine b_seq ?_;refine b_seq ?_;refine b_of ?_;refine c_region ?_;refine lf ?_;refine ll 1 ?_;refine lct (subsets_ct I hIds hIm) (fun H5 v6 le7 r8 => ?_);obtain ⟨g9, rfl, hg10⟩ := r8;refine l_end ?_;refine x_nx ?_;refine b_block ?_;refine k_nilrow 51 1 (encS (α := Int)) ?_;refine c_rangeB (α := List Int) (ι := Gh × (Option Addr) × Nat × (List (Sv Int))) (β := Option Addr × Nat) (fun ⟨Hz, Ao, co, out⟩ => Hz) (fun ⟨Hz, Ao, co, out⟩ => [(m3, .cells ([.slice Ao out.length co]).toArray 53 (0, 0)), (m1, .cells ([.slice Aw W.length cw, .slice Aa C.length ca, .slice A l.length c, .slice B F.length d, .slice Ai mi ci, .map (some gm)]).toArray 131 (0, 0))]) (fun ⟨Hz, Ao, co, out⟩ => [LR Ao out.length co 51 1 (encS (α := Int)) out]) (fun pre => fun ⟨Hz, Ao, co, out⟩ => Gh.Le H5 Hz ∧ GSets Hz encI 1 out ∧ svs out = pre.filter (fun s => !(ff (keyB s)))) (H5, none, 0, []) (fun _ => False) (fun x y => .slice y.1 x.length y.2) (fun x y => [LR y.1 x.length y.2 3 1 encI x]) rfl (subsets_iter g9 I (hIds.le le7) hg10 (Nat.le_trans hIn (by decide))) (⟨Gh.Le.refl _, gs_nil, rfl⟩) rfl (rfl) (rfl) (fun _ _ h => h.1) (fun _ _ _ _ _ _ _ hd_ hk_ s_ => by
   obtain ⟨A_, c_, rfl, hr_⟩ := hd_;exact ⟨(A_, c_), rfl, s_.newrow hk_ hr_⟩) (fun fn h => .inl (by subst h; exact ⟨_, Tryz.func91⟩)) rfl ?_ ?_ (fun _ h => h.elim)
 ·rintro lp dk rc a0 pre x y ⟨Hz, Ao, co, out⟩ hrc1 hrc2 hfa hda hdk hI hpre
  replace hI : Gh.Le H5 Hz ∧ GSets Hz encI 1 out ∧ svs out = pre.filter (fun s => !(ff (keyB s))) := hI;obtain ⟨hz1, hgo, hsv⟩ := hI;have hol : out.length ≤ 65536 := pre_small hpre hsv hIn;show RK (Code.wpIn _ _ _ _ _) _ _ _ Hz ((8, true, .slice y.1 x.length y.2) :: _) [(m3, .cells ([.slice Ao out.length co]).toArray 53 (0, 0)), (m1, .cells ([.slice Aw W.length cw, .slice Aa C.length ca, .slice A l.length c, .slice B F.length d, .slice Ai mi ci, .map (some gm)]).toArray 131 (0, 0)), (lp, .loop rc), (dk, .deferred (some []))] [LR y.1 x.length y.2 3 1 encI x, LR Ao out.length co 51 1 (encS (α := Int)) out];refine m_region ?_;refine ml_v (p_assign .no (by exact e1 rfl)) ?_;refine ml_end ?_;refine k_frz 0 (fun H11 le12 gr13 => ?_);have hxm : x ∈ BS.subsetsL I := hpre.subset (by simp);have hxl : x.length ≤ 1000000 := Nat.le_trans (BS.subs_len hxm) (by omega);refine x_begin (M := [(m3, .cells ([.slice Ao out.length co]).toArray 53 (0, 0)), (m1, .cells ([.slice Aw W.length cw, .slice Aa C.length ca, .slice A l.length c, .slice B F.length d, .slice Ai mi ci, .map (some gm)]).toArray 131 (0, 0))]) ?_ hrc1
  show RK (Code.wpIn _ _ _ _ _) _ _ _ _ _ [(m3, .cells ([.slice Ao out.length co]).toArray 53 (0, 0)), (m1, .cells ([.slice Aw W.length cw, .slice Aa C.length ca, .slice A l.length c, .slice B F.length d, .slice Ai mi ci, .map (some gm)]).toArray 131 (0, 0)), (lp, .loop { rc with state := .busy }), (dk, .deferred (some []))] [LR Ao out.length co 51 1 (encS (α := Int)) out];refine m_block ?_;refine m_seq ?_;refine m_draw [(9999, m1, .cells ([.slice Aw W.length cw, .slice Aa C.length ca, .slice A l.length c, .slice B F.length d, .slice Ai mi ci, .map (some gm)]).toArray 131 (0, 0))] H11 ?_;refine a_v 0 rfl [] (p_field .no (by exact e1 rfl)) (inM_at 1 inM_nil) te0 ?_;refine a_l 1 rfl 0 (p_load 0 .no (by exact e1 rfl)) (inM_at 1 inM_nil) te0 ?_;refine a_v 2 rfl [] (p_move .no (by exact e1 rfl)) (inM_at 1 inM_nil) te0 ?_;refine a_one 3 rfl (x_calle (vs := [.slice y.1 x.length y.2]) .no ⟨(by exact e1 rfl), trivial⟩ (fun _ => key_cv x gr13 rfl (by omega)) (k := ?_))
  refine a_in (inM_at 1 inM_nil) te0 ?_;refine a_one 4 rfl (x_pv (p_gklooks (u := .bool (ff (keyB x))) (mk := mkS) (z := (.bool false)) kv (keyB x) (hkv _) (map_le hgm (Gh.Le.trans (Gh.Le.trans le7 hz1) le12)) .no (by exact e1 rfl) (by exact e1 rfl)) ?_);refine a_in (inM_at 1 inM_nil) te0 ?_;refine a_v 5 rfl [] (p_not .no (by exact e1 rfl)) (inM_at 1 inM_nil) te0 ?_;refine a_end ?_;refine x_nx ?_;refine m_if (by rfl) (fun h14 => ?_) (fun h14 => ?_)
  ·have h14' := h14;(try simp only [bps] at h14);refine m_region ?_;refine ml_v (p_load 0 .no (by exact e1 rfl)) ?_;refine ml_v (p_move .no (by exact e1 rfl)) ?_;refine ml_x (x_bs [(0, .slice y.1 x.length y.2)] ([.slice y.1 x.length y.2]) (by kernel_rfl) (by simp [ev, eget, Nat.beq]) (k' := fun m15 hm16 => ?_));have gs19 : GSets H11 encI 1 (out ++ [(⟨y.1, y.2, x⟩ : Sv Int)]) := gs_snoc (gs_le hgo le12) gr13;refine ml_x (x_app1 0 0 [(⟨y.1, y.2, x⟩ : Sv Int)] (fun A17 c18 => ?_));refine ml_x (x_store 1 ([.slice A17 (out ++ [(⟨y.1, y.2, x⟩ : Sv Int)]).length c18]) ([.slice A17 (out ++ [(⟨y.1, y.2, x⟩ : Sv Int)]).length c18]) (k := ?_));refine ml_end ?_;refine x_bn ?_;refine k_forget (.cons _ (.cons_cons _ (.cons_cons _ (.cons_cons _ (.cons_cons _ .slnil))))) (.refl _) ?_;exact x_rend (H11, A17, c18, (out ++ [(⟨y.1, y.2, x⟩ : Sv Int)])) (⟨(Gh.Le.trans hz1 le12), gs19, by rw [filter_snoc, ← hsv, if_pos (by rw [h14]; rfl)]; simp [svs]⟩) hfa hda hrc1 hrc2 (by rfl) (by rfl) (by rfl)
  ·have h14' := h14;(try simp only [bps] at h14);refine m_skip ?_;refine x_bn ?_;exact x_rend (H11, Ao, co, out) (⟨(Gh.Le.trans hz1 le12), gs_le hgo le12, by rw [filter_snoc, ← hsv, if_neg (by rw [h14]; decide), List.append_nil]⟩) hfa hda hrc1 hrc2 (by rfl) (by rfl) (by rfl)
 ·rintro lp dk rc ⟨Hz, Ao, co, out⟩ hI hdk
  replace hI : Gh.Le H5 Hz ∧ GSets Hz encI 1 out ∧ svs out = (BS.subsetsL I).filter (fun s => !(ff (keyB s))) := hI;obtain ⟨hz1, hgo, hsv⟩ := hI;show RK (_) _ _ _ Hz _ [(m3, .cells ([.slice Ao out.length co]).toArray 53 (0, 0)), (m1, .cells ([.slice Aw W.length cw, .slice Aa C.length ca, .slice A l.length c, .slice B F.length d, .slice Ai mi ci, .map (some gm)]).toArray 131 (0, 0)), (lp, .loop rc), (dk, .deferred (some []))] [LR Ao out.length co 51 1 (encS (α := Int)) out];refine x_bn ?_;refine x_nx ?_;refine b_seq ?_;refine b_of ?_;refine c_region ?_;refine ll 0 ?_;refine k_frz 0 (fun H20 le21 gr22 => ?_);refine lct (minimal_ct out gr22 (gs_le hgo le21) rfl (svs_small hsv hIn).1 (svs_small hsv hIn).2) (fun H23 v24 le25 r26 => ?_);obtain ⟨A27, c28, M29, rfl, hf30, hg31, hm32⟩ := r26;refine la ?_;refine l_end ?_;refine x_nx ?_;refine b_of ?_;refine c_ret ?_;refine x_markg (lp := lp) (dk := dk) (vs := [.slice A27 M29.length c28]) [(m3, .cells ([.slice Ao out.length co]).toArray 53 (0, 0)), (m1, .cells ([.slice Aw W.length cw, .slice Aa C.length ca, .slice A l.length c, .slice B F.length d, .slice Ai mi ci, .map (some gm)]).toArray 131 (0, 0))] (.inl rfl) rfl ⟨rfl, trivial⟩ ?_
  exact ⟨_, _, M29, rfl, hf30, hg31, by rw [hm32 (by rw [hsv]; exact subs_sets hIs), hsv]⟩
end Go.Proofs.YtoakoffdjeleoaaGreat
end
section
set_option maxRecDepth 4000
set_option maxHeartbeats 4000000
namespace Go.Proofs.YtoakoffdjeleoaaGreat
open Go.RowKit Go.Shelf
attribute [local irreducible] BS.narrow BS.lookL BS.findE BS.findR BS.volMax BS.parts BS.checkP BS.solE BS.solR BS.solveR BS.furtherR BS.onlyP BS.decideP BS.formedB BS.checkB BS.subsetsL BS.onlyB sortI BS.minimalF
theorem withdrawals_cg {H : Gh} {Aw Aa A B Ai : Option Addr} {cw ca c d ci mi gm : Nat} (W : List BS.Wi) (C : List BS.Ac) (l : List BS.Bx) (F : List BS.Fc) (I : List Int) (hW : GRow H Aw cw encWi 3 W) (hC : GRow H Aa ca encAc 2 C) (hl : GRow H A c encBx 4 l) (hF : GRow H B d encFc 9 F) (hIds : GRow H Ai ci encI 1 I) (hIm : mi = I.length) {kv : KV ByteArray} {ff : ByteArray → Bool} (hgm : H gm = some (mapObj mkS kv)) (hkv : MapIs kv (.bool false) Value.bool ff) (hIs : I.Pairwise (· < ·)) (hIn : I.length ≤ 16) : Cg Tryz.prog 95 [.agg [.slice Aw W.length cw, .slice Aa C.length ca, .slice A l.length c, .slice B F.length d, .slice Ai mi ci, .map (some gm)].toArray] H (fun H' v => ∃ A c M, v = .slice A M.length c ∧ GRow H' A c encS 1 M ∧ GSets H' encI 1 M ∧ (svs M = BS.minimalF ((BS.subsetsL I).filter fun s => ff (keyB (I.filter fun z_ => !(decide (z_ ∈ s))))) ∧ ¬ (BS.subsetsL I).filter (fun s => ff (keyB (I.filter fun z_ => !(decide (z_ ∈ s))))) = [])) (fun ch => ch = panE 9 ∧ (BS.subsetsL I).filter (fun s => ff (keyB (I.filter fun z_ => !(decide (z_ ∈ s))))) = []) := by
 refine cgm_of Tryz.func95 rfl Tryz.ntmps95 rfl fun w0 hw => ?_;refine b_seq ?_;refine b_of ?_;refine c_region ?_;refine lbx ([.slice Aw W.length cw, .slice Aa C.length ca, .slice A l.length c, .slice B F.length d, .slice Ai mi ci, .map (some gm)]) (fun m1 hm2 => ?_);refine la ?_;refine l_end ?_;refine x_nx ?_;refine b_seq ?_;refine b_of ?_;refine c_region ?_;refine lal (fun m3 hm4 => ?_);refine l_end ?_;refine x_nx ?_;refine b_seq ?_;refine b_seq ?_;refine b_of ?_;refine c_region ?_;refine lf ?_;refine ll 1 ?_;refine lct (subsets_ct I hIds hIm) (fun H5 v6 le7 r8 => ?_);obtain ⟨g9, rfl, hg10⟩ := r8;refine l_end ?_;refine x_nx ?_;refine b_block ?_;refine k_nilrow 51 1 (encS (α := Int)) ?_;refine c_rangeB (α := List Int) (ι := Gh × (Option Addr) × Nat × (List (Sv Int))) (β := Option Addr × Nat) (fun ⟨Hz, Ao, co, out⟩ => Hz) (fun ⟨Hz, Ao, co, out⟩ => [(m3, .cells ([.slice Ao out.length co]).toArray 53 (0, 0)), (m1, .cells ([.slice Aw W.length cw, .slice Aa C.length ca, .slice A l.length c, .slice B F.length d, .slice Ai mi ci, .map (some gm)]).toArray 131 (0, 0))]) (fun ⟨Hz, Ao, co, out⟩ => [LR Ao out.length co 51 1 (encS (α := Int)) out]) (fun pre => fun ⟨Hz, Ao, co, out⟩ => Gh.Le H5 Hz ∧ GSets Hz encI 1 out ∧ svs out = pre.filter (fun s => ff (keyB (I.filter fun z_ => !(decide (z_ ∈ s)))))) (H5, none, 0, []) ((fun ch => ch = panE 9 ∧ (BS.subsetsL I).filter (fun s => ff (keyB (I.filter fun z_ => !(decide (z_ ∈ s))))) = [])) (fun x y => .slice y.1 x.length y.2) (fun x y => [LR y.1 x.length y.2 3 1 encI x]) rfl (subsets_iter g9 I (hIds.le le7) hg10 (Nat.le_trans hIn (by decide))) (⟨Gh.Le.refl _, gs_nil, rfl⟩) rfl (rfl) (rfl) (fun _ _ h => h.1) (fun _ _ _ _ _ _ _ hd_ hk_ s_ => by
   obtain ⟨A_, c_, rfl, hr_⟩ := hd_;exact ⟨(A_, c_), rfl, s_.newrow hk_ hr_⟩) (fun fn h => .inl (by subst h; exact ⟨_, Tryz.func95⟩)) rfl ?_ ?_ (fun ch h => by repeat' first | exact pan_mark h | apply PanOk.then_ | apply PanOk.block_)
 ·rintro lp dk rc a0 pre x y ⟨Hz, Ao, co, out⟩ hrc1 hrc2 hfa hda hdk hI hpre
  replace hI : Gh.Le H5 Hz ∧ GSets Hz encI 1 out ∧ svs out = pre.filter (fun s => ff (keyB (I.filter fun z_ => !(decide (z_ ∈ s))))) := hI;obtain ⟨hz1, hgo, hsv⟩ := hI;have hol : out.length ≤ 65536 := pre_small hpre hsv hIn;show RK (Code.wpIn _ _ _ _ _) _ _ _ Hz ((8, true, .slice y.1 x.length y.2) :: _) [(m3, .cells ([.slice Ao out.length co]).toArray 53 (0, 0)), (m1, .cells ([.slice Aw W.length cw, .slice Aa C.length ca, .slice A l.length c, .slice B F.length d, .slice Ai mi ci, .map (some gm)]).toArray 131 (0, 0)), (lp, .loop rc), (dk, .deferred (some []))] [LR y.1 x.length y.2 3 1 encI x, LR Ao out.length co 51 1 (encS (α := Int)) out];refine m_region ?_;refine ml_v (p_assign .no (by exact e1 rfl)) ?_;refine ml_end ?_;refine k_frz 0 (fun H11 le12 gr13 => ?_);have hxm : x ∈ BS.subsetsL I := hpre.subset (by simp);have hxl : x.length ≤ 1000000 := Nat.le_trans (BS.subs_len hxm) (by omega);refine x_begin (M := [(m3, .cells ([.slice Ao out.length co]).toArray 53 (0, 0)), (m1, .cells ([.slice Aw W.length cw, .slice Aa C.length ca, .slice A l.length c, .slice B F.length d, .slice Ai mi ci, .map (some gm)]).toArray 131 (0, 0))]) ?_ hrc1
  show RK (Code.wpIn _ _ _ _ _) _ _ _ _ _ [(m3, .cells ([.slice Ao out.length co]).toArray 53 (0, 0)), (m1, .cells ([.slice Aw W.length cw, .slice Aa C.length ca, .slice A l.length c, .slice B F.length d, .slice Ai mi ci, .map (some gm)]).toArray 131 (0, 0)), (lp, .loop { rc with state := .busy }), (dk, .deferred (some []))] [LR Ao out.length co 51 1 (encS (α := Int)) out];refine m_block ?_;refine m_seq ?_;refine m_draw [(9999, m1, .cells ([.slice Aw W.length cw, .slice Aa C.length ca, .slice A l.length c, .slice B F.length d, .slice Ai mi ci, .map (some gm)]).toArray 131 (0, 0))] H11 ?_;refine a_v 0 rfl [] (p_field .no (by exact e1 rfl)) (inM_at 1 inM_nil) te0 ?_;refine a_l 1 rfl 0 (p_load 0 .no (by exact e1 rfl)) (inM_at 1 inM_nil) te0 ?_;refine a_l 2 rfl 0 (p_loadK 0 ([.slice Aw W.length cw, .slice Aa C.length ca, .slice A l.length c, .slice B F.length d, .slice Ai mi ci, .map (some gm)]) .no (by exact e1 rfl)) (inM_at 1 inM_nil) te0 ?_
  refine a_v 3 rfl [] (p_move .no (by exact e1 rfl)) (inM_at 1 inM_nil) te0 ?_;refine a_one 4 rfl (x_callw (T := 3) (k := 1) (enc := encI) (m := (I.filter fun z_ => !(decide (z_ ∈ x))).length) (L := (I.filter fun z_ => !(decide (z_ ∈ x)))) (F := fun A_ c_ => .slice A_ (I.filter fun z_ => !(decide (z_ ∈ x))).length c_) (vs := [.agg [.slice Aw W.length cw, .slice Aa C.length ca, .slice A l.length c, .slice B F.length d, .slice Ai mi ci, .map (some gm)].toArray, .slice y.1 x.length y.2]) ?_ (fun A14 c15 => ?_) (hx := ⟨(by exact e1 rfl), (by exact e1 rfl), trivial⟩))
  ·exact rest_cw W C l F I (hW.le (Gh.Le.trans (Gh.Le.trans le7 hz1) le12)) (hC.le (Gh.Le.trans (Gh.Le.trans le7 hz1) le12)) (hl.le (Gh.Le.trans (Gh.Le.trans le7 hz1) le12)) (hF.le (Gh.Le.trans (Gh.Le.trans le7 hz1) le12)) (hIds.le (Gh.Le.trans (Gh.Le.trans le7 hz1) le12)) hIm x gr13 rfl (Nat.le_trans hIn (by decide))
  refine a_in (inM_at 1 inM_nil) te0 ?_;refine a_one 5 rfl (x_callb (vs := [.slice A14 (I.filter fun z_ => !(decide (z_ ∈ x))).length c15]) 0 (fun H' le' hL => key_cv (I.filter fun z_ => !(decide (z_ ∈ x))) hL rfl (Nat.le_trans (List.length_filter_le _ _) (Nat.le_trans hIn (by decide)))) ?_ (hx := ⟨(by exact e1 rfl), trivial⟩));refine a_in (inM_at 1 inM_nil) te0 ?_;refine a_one 6 rfl (x_pv (p_gklooks (u := .bool (ff (keyB (I.filter fun z_ => !(decide (z_ ∈ x)))))) (mk := mkS) (z := (.bool false)) kv (keyB (I.filter fun z_ => !(decide (z_ ∈ x)))) (hkv _) (map_le hgm (Gh.Le.trans (Gh.Le.trans le7 hz1) le12)) .no (by exact e1 rfl) (by exact e1 rfl)) ?_);refine a_in (inM_at 1 inM_nil) te0 ?_;refine a_end ?_;refine x_nx ?_;refine m_if (by rfl) (fun h17 => ?_) (fun h17 => ?_)
  ·have h17' := h17;(try simp only [bps] at h17);refine m_region ?_;refine ml_v (p_load 0 .no (by exact e1 rfl)) ?_;refine ml_v (p_move .no (by exact e1 rfl)) ?_;refine ml_x (x_bs [(0, .slice y.1 x.length y.2)] ([.slice y.1 x.length y.2]) (by kernel_rfl) (by simp [ev, eget, Nat.beq]) (k' := fun m18 hm19 => ?_));have gs22 : GSets H11 encI 1 (out ++ [(⟨y.1, y.2, x⟩ : Sv Int)]) := gs_snoc (gs_le hgo le12) gr13;refine ml_x (x_app1 1 0 [(⟨y.1, y.2, x⟩ : Sv Int)] (fun A20 c21 => ?_));refine ml_x (x_store 1 ([.slice A20 (out ++ [(⟨y.1, y.2, x⟩ : Sv Int)]).length c21]) ([.slice A20 (out ++ [(⟨y.1, y.2, x⟩ : Sv Int)]).length c21]) (k := ?_));refine ml_end ?_;refine x_bn ?_;refine k_forget (.cons _ (.cons_cons _ (.cons_cons _ (.cons_cons _ (.cons_cons _ .slnil))))) (.cons _ (.cons_cons _ .slnil)) ?_;exact x_rend (H11, A20, c21, (out ++ [(⟨y.1, y.2, x⟩ : Sv Int)])) (⟨(Gh.Le.trans hz1 le12), gs22, by rw [filter_snoc, ← hsv, if_pos (h17)]; simp [svs]⟩) hfa hda hrc1 hrc2 (by rfl) (by rfl) (by rfl)
  ·have h17' := h17;(try simp only [bps] at h17);refine m_skip ?_;refine x_bn ?_;refine k_forget (.refl _) (.cons _ (.cons_cons _ .slnil)) ?_;exact x_rend (H11, Ao, co, out) (⟨(Gh.Le.trans hz1 le12), gs_le hgo le12, by rw [filter_snoc, ← hsv, if_neg (by rw [h17]; decide), List.append_nil]⟩) hfa hda hrc1 hrc2 (by rfl) (by rfl) (by rfl)
 ·rintro lp dk rc ⟨Hz, Ao, co, out⟩ hI hdk
  replace hI : Gh.Le H5 Hz ∧ GSets Hz encI 1 out ∧ svs out = (BS.subsetsL I).filter (fun s => ff (keyB (I.filter fun z_ => !(decide (z_ ∈ s))))) := hI;obtain ⟨hz1, hgo, hsv⟩ := hI;show RK (_) _ _ _ Hz _ [(m3, .cells ([.slice Ao out.length co]).toArray 53 (0, 0)), (m1, .cells ([.slice Aw W.length cw, .slice Aa C.length ca, .slice A l.length c, .slice B F.length d, .slice Ai mi ci, .map (some gm)]).toArray 131 (0, 0)), (lp, .loop rc), (dk, .deferred (some []))] [LR Ao out.length co 51 1 (encS (α := Int)) out];refine x_bn ?_;refine x_nx ?_;refine b_seq ?_;refine b_seq ?_;refine b_of ?_;refine c_region ?_;refine ll 0 ?_;refine llen ?_;refine leql ?_;refine l_end ?_;refine x_nx ?_;refine b_of ?_;refine c_if (by rfl) (fun h23 => ?_) (fun h23 => ?_)
  ·have h23' := h23;(try simp only [bps] at h23);refine c_region ?_;refine l_v (p_mkif ⟨_, Tryz.underlying34⟩ .no (by exact e1 rfl)) ?_;refine l_x (x_panic (v := .iface 34 (.int .i64 9)) rfl (fun w => run_panE _ w) ?_)
   (repeat first | refine x_bp ?_ | refine x_tp ?_)
   exact x_panm (⟨rfl, by rw [← hsv, show out = [] from List.eq_nil_of_length_eq_zero (by omega)]; rfl⟩) (by simp)
  ·have h23' := h23;(try simp only [bps] at h23);refine c_skip ?_;refine x_nx ?_;refine b_seq ?_;refine b_of ?_;refine c_region ?_;refine ll 0 ?_;refine k_frz 0 (fun H24 le25 gr26 => ?_);refine lct (minimal_ct out gr26 (gs_le hgo le25) rfl (svs_small hsv hIn).1 (svs_small hsv hIn).2) (fun H27 v28 le29 r30 => ?_);obtain ⟨A31, c32, M33, rfl, hf34, hg35, hm36⟩ := r30;refine la ?_;refine l_end ?_;refine x_nx ?_;refine b_of ?_;refine c_ret ?_;refine x_markg (lp := lp) (dk := dk) (vs := [.slice A31 M33.length c32]) [(m3, .cells ([.slice Ao out.length co]).toArray 53 (0, 0)), (m1, .cells ([.slice Aw W.length cw, .slice Aa C.length ca, .slice A l.length c, .slice B F.length d, .slice Ai mi ci, .map (some gm)]).toArray 131 (0, 0))] (.inl rfl) rfl ⟨rfl, trivial⟩ ?_;exact ⟨_, _, M33, rfl, hf34, hg35, ⟨by rw [hm36 (by rw [hsv]; exact subs_sets hIs), hsv], fun e0 => by rw [← hsv] at e0; have e1 := congrArg List.length e0; rw [List.length_map, List.length_nil] at e1; omega⟩⟩
end Go.Proofs.YtoakoffdjeleoaaGreat
end
section
namespace BS
def lightStep (f : List Int → Int) (s : List (List Int) × Int) (x : List Int) : List (List Int) × Int :=
  if s.1.length = 0 ∨ f x < s.2 then ([x], f x) else if f x = s.2 then (s.1 ++ [x], s.2) else s
def lightTo (f : List Int → Int) (L : List (List Int)) (i : Nat) : List (List Int) × Int := (L.take i).foldl (lightStep f) ([], 0)
theorem lightTo_zero (f : List Int → Int) (L : List (List Int)) : lightTo f L 0 = ([], 0) := rfl
theorem lightTo_succ (f : List Int → Int) (L : List (List Int)) {i : Nat} (hi : i < L.length) : lightTo f L (i + 1) = lightStep f (lightTo f L i) (L.getD i []) := by
  have e : L.take (i + 1) = L.take i ++ [L.getD i []] := by
    rw [List.take_succ_eq_append_getElem hi, List.getD_eq_getElem?_getD, List.getElem?_eq_getElem hi]; rfl
  unfold lightTo
  rw [e, List.foldl_append]
  rfl
theorem lightTo_length (f : List Int → Int) (L : List (List Int)) (i : Nat) : (lightTo f L i).1.length ≤ i := by
  induction i with
  | zero => simp [lightTo_zero]
  | succ i ih =>
    by_cases hi : i < L.length
    · rw [lightTo_succ f L hi]; unfold lightStep
      split
      · simp
      · split
        · simp; omega
        · omega
    · have : lightTo f L (i + 1) = lightTo f L i := by unfold lightTo; rw [List.take_of_length_le (by omega), List.take_of_length_le (by omega)]
      rw [this]; omega
def lightL (f : List Int → Int) (L : List (List Int)) : List (List Int) × Int := lightTo f L L.length
theorem place_length (L : List (List Int)) (x : List Int) : (place L x).length ≤ L.length + 1 := by
  induction L with
  | nil => simp [place]
  | cons y L ih =>
    unfold place
    split
    · simp only [List.length_cons]; omega
    · split <;> simp
theorem minimalF_len (F : List (List Int)) : (minimalF F).length ≤ F.length := by
  have : ∀ (K L : List (List Int)), (K.foldl place L).length ≤ L.length + K.length := by
    intro K
    induction K with
    | nil => simp
    | cons y K ih => intro L; rw [List.foldl_cons]; have := ih (place L y); have := place_length L y; simp only [List.length_cons]; omega
  have h1 := this (F.filter fun x => F.all fun y => !(partB y x) || y == x) []
  have h2 := List.length_filter_le (fun x => F.all fun y => !(partB y x) || y == x) F
  simp only [List.length_nil, Nat.zero_add] at h1
  exact Nat.le_trans h1 h2
end BS
end
section
set_option maxRecDepth 4000
set_option maxHeartbeats 4000000
namespace Go.Proofs.YtoakoffdjeleoaaGreat
open Go.RowKit Go.Shelf
attribute [local irreducible] BS.narrow BS.lookL BS.findE BS.findR BS.volMax BS.parts BS.checkP BS.solE BS.solR BS.solveR BS.furtherR BS.onlyP BS.decideP BS.formedB BS.checkB BS.subsetsL BS.onlyB sortI BS.minimalF
theorem light_reset {f : List Int → Int} {L out : List (Sv Int)} {w : Int} {i : Nat} (hsv : (svs out, w) = BS.lightTo f (svs L) i) (hi : i < L.length) {b : Bool} (hb : b = true) (h : b = (decide ((out.length : Int) = 0) || decide (f (L.getD i zS).l < w))) : (svs [L.getD i zS], f (L.getD i zS).l) = BS.lightTo f (svs L) (i + 1) := by
 subst h;rw [BS.lightTo_succ f (svs L) (by rw [List.length_map]; exact hi), ← hsv, svl_getD];simp only [Bool.or_eq_true, decide_eq_true_eq] at hb;unfold BS.lightStep;rw [if_pos (by rw [List.length_map]; omega)];rfl
theorem light_keep {f : List Int → Int} {L out : List (Sv Int)} {w : Int} {i : Nat} (hsv : (svs out, w) = BS.lightTo f (svs L) i) (hi : i < L.length) {b : Bool} (hb : b = false) (h : b = (decide ((out.length : Int) = 0) || decide (f (L.getD i zS).l < w))) : BS.lightTo f (svs L) (i + 1) = if f (L.getD i zS).l = w then (svs (out ++ [L.getD i zS]), w) else (svs out, w) := by
 subst h;rw [BS.lightTo_succ f (svs L) (by rw [List.length_map]; exact hi), ← hsv, svl_getD];simp only [Bool.or_eq_false_iff, decide_eq_false_iff_not] at hb;unfold BS.lightStep;rw [if_neg (by rw [List.length_map]; omega)];simp [svs]
theorem lightest_ct {H : Gh} {Aw Aa A B : Option Addr} {cw ca c d : Nat} (W : List BS.Wi) (C : List BS.Ac) (l : List BS.Bx) (F : List BS.Fc) (hW : GRow H Aw cw encWi 3 W) (hC : GRow H Aa ca encAc 2 C) (hl : GRow H A c encBx 4 l) (hF : GRow H B d encFc 9 F) {AL : Option Addr} {cL mL : Nat} (L : List (Sv Int)) (hL : GRow H AL cL encS 1 L) (hLs : GSets H encI 1 L) (hm : mL = L.length) (hWv : ∀ w ∈ W, (0 ≤ w.right ∧ w.right ≤ 10000) ∧ 0 ≤ w.wrong ∧ w.wrong ≤ 10000) (hCn : C.length ≤ 1000000) (hn : L.length ≤ 1000000) : Ct Tryz.prog 137 [.agg [.slice Aw W.length cw, .slice Aa C.length ca, .slice A l.length c, .slice B F.length d].toArray, .slice AL mL cL] H fun H' v => ∃ A1 c1 M, v = .tuple [.slice A1 M.length c1, .int .i64 (BS.lightL (fun s => BS.weightTo W s C) (svs L)).2].toArray ∧ GRow H' A1 c1 encS 1 M ∧ GSets H' encI 1 M ∧ svs M = (BS.lightL (fun s => BS.weightTo W s C) (svs L)).1 := by
 refine ct_of Tryz.func137 rfl Tryz.ntmps137 rfl fun w0 hw => ?_;refine c_seq<|c_region ?_;refine lbx ([.slice Aw W.length cw, .slice Aa C.length ca, .slice A l.length c, .slice B F.length d]) (fun m1 hm2 => ?_);refine la ?_;refine la ?_;refine l_end<|x_next<|c_seq<|c_region ?_;refine la ?_;refine l_end<|x_next<|c_seq<|c_region ?_;refine la ?_;refine l_end<|x_next<|c_seq<|c_seq<|c_region ?_;refine lm ?_;refine llen ?_;refine lm ?_;refine l_end<|x_next<|c_block ?_;refine k_nilrow 51 1 (encS (α := Int)) ?_;refine c_loop (ι := Nat × Gh × Option Addr × Nat × List (Sv Int) × Int) (fun ⟨i, Hx, Ao, co, out, w⟩ => [(2, true, .pointer (some ⟨m1, 0, none⟩)), (4, true, .slice none 0 0), (5, true, .int .i64 0), (6, true, .slice Ao out.length co), (7, true, .int .i64 w), (11, true, .slice AL mL cL), (12, true, .int .i64 (mL : Int)), (13, true, .int .i64 ((i : Nat) : Int))]) (fun ⟨i, Hx, Ao, co, out, w⟩ => [(m1, .cells ([.slice Aw W.length cw, .slice Aa C.length ca, .slice A l.length c, .slice B F.length d]).toArray 29 (0, 0))]) (fun ⟨i, Hx, Ao, co, out, w⟩ => [LR Ao out.length co 51 1 (encS (α := Int)) out]) (fun ⟨i, Hx, Ao, co, out, w⟩ => Hx) (fun ⟨i, Hx, Ao, co, out, w⟩ => i ≤ L.length ∧ Gh.Le H Hx ∧ GSets Hx encI 1 out ∧ (svs out, w) = BS.lightTo (fun s => BS.weightTo W s C) (svs L) i) (fun ⟨i, Hx, Ao, co, out, w⟩ => L.length - i) (0, H, none, 0, [], 0) (⟨Nat.zero_le _, Gh.Le.refl _, gs_nil, rfl⟩) rfl (sub_cons rfl (sub_cons rfl (sub_cons rfl (sub_eq rfl (by first | rfl | omega | (simp; done)) sA)))) (rfl) (rfl) ?_
 rintro ⟨i, Hx, Ao, co, out, w⟩ hi4
 (try dsimp only);replace hi4 : i ≤ L.length ∧ Gh.Le H Hx ∧ GSets Hx encI 1 out ∧ (svs out, w) = BS.lightTo (fun s => BS.weightTo W s C) (svs L) i := hi4;obtain ⟨hi1, hle, hgo, hsv⟩ := hi4;have hol : out.length ≤ i := by have e9 := congrArg (fun p => p.1.length) hsv; simp only [List.length_map] at e9; rw [e9]; exact BS.lightTo_length _ _ _
 refine c_seq<|c_region ?_;refine llss ?_;refine l_end<|x_next<|c_seq ?_;refine c_if (by rfl) (fun h5 => ?_) (fun h5 => ?_)
 ·have h5' := h5;(try simp only [bps] at h5);refine c_skip ?_;refine x_next<|c_seq<|c_block<|c_seq<|c_region ?_;refine lix (hL.le hle) zS i (fun p6 o7 g8 => ?_) (hm := hm);refine lg 0 g8 ?_;refine la ?_;refine l_end<|x_next<|c_seq<|c_region ?_;refine lk 0 ([.slice Aw W.length cw, .slice Aa C.length ca, .slice A l.length c, .slice B F.length d]) ?_;refine lm ?_;refine lcl (weight_cv W C l F (hW.le hle) (hC.le hle) (hl.le hle) (hF.le hle) (L.getD i zS).l ((gs_at hLs (i) zS (by omega)).le hle) rfl hWv hCn) ?_;refine la ?_;refine l_end<|x_next<|c_seq<|c_seq<|c_region ?_;refine lm ?_;refine llen ?_;refine leql ?_;refine lm ?_;refine l_v (p_move (by exact .not rfl rfl) (by exact e1 rfl)) ?_;refine l_v (p_move (by exact .not rfl rfl) (by exact e1 rfl)) ?_;refine l_v (p_bin (by exact .not rfl rfl) (by exact e2 rfl) (by exact e2 rfl) (fun _ => r_lss _ _ _ _)) ?_;refine l_v (p_or (by rfl) (by rfl)) ?_
  refine l_end<|x_next ?_;refine c_if (by rfl) (fun h9 => ?_) (fun h9 => ?_)
  ·have h9' := h9;(try simp only [bps] at h9);refine c_region ?_;refine lm ?_;refine la ?_;refine la ?_;refine l_end<|x_next<|c_seq<|c_region ?_;refine lm ?_;refine lm ?_;refine leql ?_;refine l_end<|x_next ?_;refine c_if (by rfl) (fun h10 => ?_) (fun h10 => ?_)
   ·have h10' := h10;(try simp only [bps] at h10);refine c_region ?_;refine lm ?_;refine lm ?_;refine l_x (x_bs [(0, .slice (L.getD i zS).A (L.getD i zS).l.length (L.getD i zS).c)] ([.slice (L.getD i zS).A (L.getD i zS).l.length (L.getD i zS).c]) (by kernel_rfl) (by simp [ev, eget, Nat.beq]) (k' := fun m11 hm12 => ?_));refine k_nilrow 51 1 (encS (α := Int)) ?_;have gs16 : GSets Hx encI 1 [(L.getD i zS)] := (by simpa using gs_snoc gs_nil ((gs_at hLs (i) zS (by omega)).le hle));refine l_x (x_app1 0 0 [(L.getD i zS)] (fun A14 c15 => ?_));refine la ?_;refine l_end ?_;refine x_bn ?_;refine x_next<|c_region ?_;refine ladd ?_;refine lm ?_;refine l_end ?_;refine k_forget (.refl _) (.cons_cons _ (.cons _ .slnil)) ?_;refine k_forget (.cons _ (.cons_cons _ .slnil)) (.refl _) ?_;exact x_round ((i + 1), Hx, A14, c15, [(L.getD i zS)], (BS.weightTo W (L.getD i zS).l C)) (⟨by omega, hle, gs16, light_reset hsv (by omega) h9' rfl⟩) (by first | omega | (dsimp only; omega)) rfl (sub_cons rfl (sub_cons rfl (sub_cons rfl (sub_cons rfl (sub_cons rfl (sub_cons rfl (sub_cons rfl (sub_int rfl (by first | rfl | omega | (simp; done)) (sub_nil _))))))))) (rfl) (rfl)
   ·have h10' := h10;(try simp only [bps] at h10);exfalso;exact absurd h10' (by simp)
  ·have h9' := h9;(try simp only [bps] at h9);refine c_skip ?_;refine x_next<|c_seq<|c_region ?_;refine lm ?_;refine lm ?_;refine leql ?_;refine l_end<|x_next ?_;refine c_if (by rfl) (fun h17 => ?_) (fun h17 => ?_)
   ·have h17' := h17;(try simp only [bps] at h17);refine c_region ?_;refine lm ?_;refine lm ?_;refine l_x (x_bs [(0, .slice (L.getD i zS).A (L.getD i zS).l.length (L.getD i zS).c)] ([.slice (L.getD i zS).A (L.getD i zS).l.length (L.getD i zS).c]) (by kernel_rfl) (by simp [ev, eget, Nat.beq]) (k' := fun m18 hm19 => ?_));have gs22 : GSets Hx encI 1 (out ++ [(L.getD i zS)]) := gs_snoc hgo ((gs_at hLs (i) zS (by omega)).le hle);refine l_x (x_app1 0 0 [(L.getD i zS)] (fun A20 c21 => ?_));refine la ?_;refine l_end ?_;refine x_bn ?_;refine x_next<|c_region ?_;refine ladd ?_;refine lm ?_;refine l_end ?_;refine k_forget (.cons _ (.cons_cons _ .slnil)) (.refl _) ?_;exact x_round ((i + 1), Hx, A20, c21, (out ++ [(L.getD i zS)]), w) (⟨by omega, hle, gs22, (light_keep hsv (by omega) h9' rfl).trans (if_pos h17)|>.symm⟩) (by first | omega | (dsimp only; omega)) rfl (sub_cons rfl (sub_cons rfl (sub_cons rfl (sub_cons rfl (sub_cons rfl (sub_cons rfl (sub_cons rfl (sub_int rfl (by first | rfl | omega | (simp; done)) (sub_nil _))))))))) (rfl) (rfl)
   ·have h17' := h17;(try simp only [bps] at h17);refine c_skip ?_;refine x_bn ?_;refine x_next<|c_region ?_;refine ladd ?_;refine lm ?_;refine l_end ?_;exact x_round ((i + 1), Hx, Ao, co, out, w) (⟨by omega, hle, hgo, (light_keep hsv (by omega) h9' rfl).trans (if_neg h17)|>.symm⟩) (by first | omega | (dsimp only; omega)) rfl (sub_cons rfl (sub_cons rfl (sub_cons rfl (sub_cons rfl (sub_cons rfl (sub_cons rfl (sub_cons rfl (sub_int rfl (by first | rfl | omega | (simp; done)) (sub_nil _))))))))) (rfl) (rfl)
 ·have h5' := h5;(try simp only [bps] at h5);refine c_exit ?_;refine x_te ?_;refine x_te ?_;refine x_be ?_;refine x_next<|c_seq<|c_region ?_;refine lm ?_;refine lm ?_;refine la ?_;refine la ?_;refine l_end<|x_next ?_;refine c_ret ?_;refine k_frz 0 (fun H23 le24 gr25 => ?_);refine x_ret (vs := [.slice Ao out.length co, .int .i64 w]) rfl ⟨rfl, rfl, trivial⟩ ?_;obtain rfl : i = L.length := by omega
  have e9 : (svs out, w) = BS.lightL (fun s => BS.weightTo W s C) (svs L) := by rw [hsv]; show _ = BS.lightTo _ (svs L) (svs L).length; rw [List.length_map]
  exact ⟨_, _, out, by rw [← e9]; rfl, gr25, gs_le hgo le24, by rw [← e9]⟩
end Go.Proofs.YtoakoffdjeleoaaGreat
end
section
set_option maxRecDepth 4000
set_option maxHeartbeats 4000000
namespace Go.Proofs.YtoakoffdjeleoaaGreat
open Go.RowKit Go.Shelf
attribute [local irreducible] BS.narrow BS.lookL BS.findE BS.findR BS.volMax BS.parts BS.checkP BS.solE BS.solR BS.solveR BS.furtherR BS.onlyP BS.decideP BS.formedB BS.checkB BS.subsetsL BS.onlyB sortI BS.minimalF BS.lightL
theorem mini_small {I : List Int} {L : List (Sv Int)} {p : List Int → Bool} (h : svs L = BS.minimalF ((BS.subsetsL I).filter p)) (hn : I.length ≤ 16) : L.length ≤ 1000000 := by
 have h1 := congrArg List.length h;rw [List.length_map] at h1;have h2 := List.length_filter_le p (BS.subsetsL I);have h3 := BS.subs_count I;have h4 : 2 ^ I.length ≤ 2 ^ 16 := Nat.pow_le_pow_right (by omega) hn;have h5 := BS.minimalF_len ((BS.subsetsL I).filter p);omega
theorem least_cg {H : Gh} {Aw Aa A B Ai : Option Addr} {cw ca c d ci mi gm : Nat} (W : List BS.Wi) (C : List BS.Ac) (l : List BS.Bx) (F : List BS.Fc) (I : List Int) (hW : GRow H Aw cw encWi 3 W) (hC : GRow H Aa ca encAc 2 C) (hl : GRow H A c encBx 4 l) (hF : GRow H B d encFc 9 F) (hIds : GRow H Ai ci encI 1 I) (hIm : mi = I.length) {kv : KV ByteArray} {ff : ByteArray → Bool} (hgm : H gm = some (mapObj mkS kv)) (hkv : MapIs kv (.bool false) Value.bool ff) (hIs : I.Pairwise (· < ·)) (hIn : I.length ≤ 16) (hWv : ∀ w ∈ W, (0 ≤ w.right ∧ w.right ≤ 10000) ∧ 0 ≤ w.wrong ∧ w.wrong ≤ 10000) (hCn : C.length ≤ 1000000) : Cg Tryz.prog 84 [.agg [.slice Aw W.length cw, .slice Aa C.length ca, .slice A l.length c, .slice B F.length d, .slice Ai mi ci, .map (some gm)].toArray] H (fun H' v => ∃ A1 c1 M, v = .tuple [.slice A1 M.length c1, .int .i64 (BS.lightL (fun s => BS.weightTo W s C) (BS.minimalF ((BS.subsetsL I).filter fun s => ff (keyB (I.filter fun z_ => !(decide (z_ ∈ s))))))).2].toArray ∧ GRow H' A1 c1 encS 1 M ∧ GSets H' encI 1 M ∧ (svs M = (BS.lightL (fun s => BS.weightTo W s C) (BS.minimalF ((BS.subsetsL I).filter fun s => ff (keyB (I.filter fun z_ => !(decide (z_ ∈ s))))))).1 ∧ ¬ ((BS.subsetsL I).filter fun s => ff (keyB (I.filter fun z_ => !(decide (z_ ∈ s))))) = [])) (fun ch => ch = panE 9 ∧ (BS.subsetsL I).filter (fun s => ff (keyB (I.filter fun z_ => !(decide (z_ ∈ s))))) = []) := by
 refine cg_of Tryz.func84 rfl Tryz.ntmps84 rfl fun w0 hw => ?_;refine c_seq<|c_region ?_;refine lbx ([.slice Aw W.length cw, .slice Aa C.length ca, .slice A l.length c, .slice B F.length d, .slice Ai mi ci, .map (some gm)]) (fun m1 hm2 => ?_);refine la ?_;refine la ?_;refine l_end<|x_next<|c_seq ?_;refine c_draw [(9999, m1, .cells ([.slice Aw W.length cw, .slice Aa C.length ca, .slice A l.length c, .slice B F.length d, .slice Ai mi ci, .map (some gm)]).toArray 131 (0, 0))] H ?_;refine a_v 0 rfl [] (p_field .no (by exact e1 rfl)) (inM_at 0 inM_nil) te0 ?_;refine a_l 1 rfl 0 (p_loadK 0 ([.slice Aw W.length cw, .slice Aa C.length ca, .slice A l.length c, .slice B F.length d]) .no (by exact e1 rfl)) (inM_at 0 inM_nil) te0 ?_;refine a_l 2 rfl 0 (p_loadK 0 ([.slice Aw W.length cw, .slice Aa C.length ca, .slice A l.length c, .slice B F.length d, .slice Ai mi ci, .map (some gm)]) .no (by exact e1 rfl)) (inM_at 0 inM_nil) te0 ?_
 refine a_one 3 rfl (x_callg (Rs := (fun H' v => ∃ A c M, v = .slice A M.length c ∧ GRow H' A c encS 1 M ∧ GSets H' encI 1 M ∧ (svs M = BS.minimalF ((BS.subsetsL I).filter fun s => ff (keyB (I.filter fun z_ => !(decide (z_ ∈ s))))) ∧ ¬ ((BS.subsetsL I).filter fun s => ff (keyB (I.filter fun z_ => !(decide (z_ ∈ s))))) = []))) (Pc := (fun ch => ch = panE 9 ∧ ((BS.subsetsL I).filter fun s => ff (keyB (I.filter fun z_ => !(decide (z_ ∈ s))))) = [])) (vs := [.agg [.slice Aw W.length cw, .slice Aa C.length ca, .slice A l.length c, .slice B F.length d, .slice Ai mi ci, .map (some gm)].toArray]) (dst := some 7) ?_ (fun H3 v4 le5 r6 => ?_) (fun ch_ hp_ => (by (repeat first | refine x_bp ?_ | refine x_tp ?_); exact x_pang (hp_))) (hx := ⟨(by exact e1 rfl), trivial⟩))
 ·exact withdrawals_cg W C l F I hW hC hl hF hIds hIm hgm hkv hIs hIn
 obtain ⟨A7, c8, M9, rfl, hf10, hg11, hm12, hne13⟩ := r6;show RK _ _ _ _ _ ((7, true, .slice A7 M9.length c8) :: _) [(m1, .cells ([.slice Aw W.length cw, .slice Aa C.length ca, .slice A l.length c, .slice B F.length d, .slice Ai mi ci, .map (some gm)]).toArray 131 (0, 0))] [];refine a_in (inM_at 0 inM_nil) (te le5) ?_;have hc24 : Ct Tryz.prog 137 [.agg [.slice Aw W.length cw, .slice Aa C.length ca, .slice A l.length c, .slice B F.length d].toArray, .slice A7 M9.length c8] H3 _ := lightest_ct W C l F (hW.le le5) (hC.le le5) (hl.le le5) (hF.le le5) M9 hf10 hg11 rfl hWv hCn (mini_small hm12 hIn);refine a_one 4 rfl (x_call .no ?_ (fun _ => hc24) (k := fun H14 v15 le16 r17 => ?_))
 ·exact ⟨(by exact e1 rfl), (by exact e1 rfl), trivial⟩
 obtain ⟨A18, c19, M20, rfl, hf21, hg22, hl23⟩ := r17 rfl;refine a_in (inM_at 0 inM_nil) (te (Gh.Le.trans le5 le16)) ?_;refine a_v 5 rfl [] (p_extract .no (by exact e1 rfl) (by rfl)) (inM_at 0 inM_nil) (te (Gh.Le.trans le5 le16)) ?_;refine a_v 6 rfl [] (p_extract .no (by exact e1 rfl) (by rfl)) (inM_at 0 inM_nil) (te (Gh.Le.trans le5 le16)) ?_;refine a_v 7 rfl [] (p_assign .no (by exact e1 rfl)) (inM_at 0 inM_nil) (te (Gh.Le.trans le5 le16)) ?_;refine a_v 8 rfl [] (p_assign .no (by exact e1 rfl)) (inM_at 0 inM_nil) (te (Gh.Le.trans le5 le16)) ?_;refine a_end ?_;refine x_next ?_;refine c_ret ?_;refine x_retg (vs := [.slice A18 M20.length c19, .int .i64 (BS.lightL (fun s => BS.weightTo W s C) (svs M9)).2]) rfl ⟨rfl, rfl, trivial⟩ ?_;exact ⟨_, _, M20, by rw [← hm12]; rfl, hf21, hg22, by rw [← hm12]; exact hl23, hne13⟩
end Go.Proofs.YtoakoffdjeleoaaGreat
end
section
namespace Go.Proofs.YtoakoffdjeleoaaGreat
open Go.RowKit Go.Shelf
variable {P : Program} {ops : Array Oper} {Q : Exit → Act → World → Prop} {K : Act → World → Prop} {C : Cx} {n : Nat} {D : List Deferred} {H : Gh} {E : Env} {M : List (Nat × Obj)} {R : List Rw} {a : Act} {w : World} {l : List Oper} {o : Oper} {d : Nat} {b : Bool} {v : Value}
section
variable {ty : TypeId} {pos : String} {af : Array Edge} {gd : Option (Nat × Bool)}
theorem run_ifn {t T : TypeId} {ms : Array (String × TypeId)} (hu : P.underlying t = some (.interface ms)) (w : World) : (binOp .neq t (.iface T v) .nilIface).run P w = .ok (.bool true) w := by
  have h : ∀ e, (Op.equalIn (e + 1) t (.iface T v) .nilIface).run P w = .ok false w := fun e => by
    rw [Op.equalIn]
    simp only [Sem.run_bind, run_underlying hu, Result.andThen_ok, Sem.run_pure]
  show ((do pure (.bool (!(← Op.equalIn (Op.maxDepth - 1 + 1) t (.iface T v) .nilIface)))) : Sem Value).run P w = _
  simp only [Sem.run_bind, h, Result.andThen_ok, Sem.run_pure, Bool.not_false]
theorem run_if0 {t : TypeId} {ms : Array (String × TypeId)} (hu : P.underlying t = some (.interface ms)) (w : World) : (binOp .neq t .nilIface .nilIface).run P w = .ok (.bool false) w := by
  have h : ∀ e, (Op.equalIn (e + 1) t .nilIface .nilIface).run P w = .ok true w := fun e => by
    rw [Op.equalIn]
    simp only [Sem.run_bind, run_underlying hu, Result.andThen_ok, Sem.run_pure]
  show ((do pure (.bool (!(← Op.equalIn (Op.maxDepth - 1 + 1) t .nilIface .nilIface)))) : Sem Value).run P w = _
  simp only [Sem.run_bind, h, Result.andThen_ok, Sem.run_pure, Bool.not_true]
theorem p_ifn {t t' T : TypeId} {x : Operand} {ms : Array (String × TypeId)} (hu : P.underlying t = some (.interface ms)) (hg : Gd ops E gd b) (hx : Ev E b x (.iface T v)) : PV P ops n E M H ⟨some d, .binOp .neq t x (.const .nilIface) t', ty, pos, af, gd⟩ d b (.bool true) :=
  ⟨rfl, fun _ hf => hg.want rfl hf, fun hb a w hf _ _ => by
    have e : (eqGuard .neq t x (.const .nilIface) (.iface T v) .nilIface).run P w = .ok () w := rfl
    have e2 : a.eval (.const .nilIface) = .nilIface := rfl
    simp only [execOp, hf.ev hx hb, e2, Sem.run_bind, e, run_ifn hu, Result.andThen_ok, Sem.run_pure]⟩
theorem p_if0 {t t' : TypeId} {x : Operand} {ms : Array (String × TypeId)} (hu : P.underlying t = some (.interface ms)) (hg : Gd ops E gd b) (hx : Ev E b x .nilIface) : PV P ops n E M H ⟨some d, .binOp .neq t x (.const .nilIface) t', ty, pos, af, gd⟩ d b (.bool false) :=
  ⟨rfl, fun _ hf => hg.want rfl hf, fun hb a w hf _ _ => by
    have e2 : a.eval (.const .nilIface) = .nilIface := rfl
    simp only [execOp, hf.ev hx hb, e2, eqGuard_nil_constR, Sem.run_bind, run_if0 hu, Result.andThen_ok, Sem.run_pure]⟩
theorem p_ta {t T : TypeId} {x : Operand} {q : IntKind} (hu : P.underlying T = some (.int q)) (hg : Gd ops E gd b) (hx : Ev E b x (.iface T v)) : PV P ops n E M H ⟨some d, .typeAssert x t T true, ty, pos, af, gd⟩ d b (.tuple #[v, .bool true]) :=
  ⟨rfl, fun _ hf => hg.want rfl hf, fun hb a w hf _ _ => by simp only [execOp, hf.ev hx hb, Instr.typeAssert, run_underlying hu, Sem.run_bind, Result.andThen_ok, if_true, Sem.run_pure]⟩
end
theorem opsS_rec {Q : Exit → Act → List Frame → World → Prop} {cs cs' : List Frame} {i : Nat} {rest : List Nat} (ho : ops[i]? = some o) (hg : o.guard = none) (hr : (execOp a.eval o).run P w = .ok .recover w) (hc : recoverD cs = some (v, cs')) (k : wpOpsS P ops Q rest (a.put o.dst v) cs' w) : wpOpsS P ops Q (i :: rest) a cs w := by
  simp only [wpOpsS, ho, Region.wanted, hg, hr, hc, if_true]; exact k
theorem opsS_rec0 {Q : Exit → Act → List Frame → World → Prop} {cs : List Frame} {i : Nat} {rest : List Nat} (ho : ops[i]? = some o) (hg : o.guard = none) (hr : (execOp a.eval o).run P w = .ok .recover w) (hc : recoverD cs = none) (k : wpOpsS P ops Q rest (a.put o.dst .nilIface) cs w) : wpOpsS P ops Q (i :: rest) a cs w := by
  simp only [wpOpsS, ho, Region.wanted, hg, hr, hc, if_true]; exact k
theorem opsS_val {Q : Exit → Act → List Frame → World → Prop} {cs : List Frame} {i : Nat} {rest : List Nat} (ho : ops[i]? = some o) (hg : o.guard = none) (hr : (execOp a.eval o).run P w = .ok (.value v) w) (k : wpOpsS P ops Q rest (a.put o.dst v) cs w) : wpOpsS P ops Q (i :: rest) a cs w := by
  simp only [wpOpsS, ho, Region.wanted, hg, hr, if_true, Oper.upon]; exact k
section
variable {Q : Exit → Act → List Frame → World → Prop} {cs cs' : List Frame} {V : Value} {y : Code} {id d5 d2 : Nat} {ty ty' : TypeId} {pos pos' : String} {af af' : Array Edge} {at_ : Array TypeId}
theorem s_rec (s : St C n D H E M R a w) (hc : recoverD cs = some (V, cs')) (k : RK (y.wp P (fun e a w => Q e a cs' w)) C n D H ((d2, true, V) :: (d5, true, V) :: E) M R) (h5 : Nat.blt d5 n = true) (h2 : Nat.blt d2 n = true) : (Code.seq (Code.region id #[⟨some d5, .call { callee := .builtin .recover, args := #[], argTypes := at_ }, ty, pos, af, none⟩, ⟨some d2, .assign (.tmp d5), ty', pos', af', none⟩] false) y).wpS P Q a cs w := by
  have s5 := s.put (d := d5) (b := true) (v := V) (u := V) h5 rfl
  refine wpS_seq (wpS_region ?_)
  show wpOpsS P _ _ [0, 1] a cs w
  refine opsS_rec rfl rfl rfl hc (opsS_val (v := V) rfl rfl ?_ ?_)
  · have e := s5.fits.ev (b := true) (x := .tmp d5) (v := V) (e1 (by simp [ev, eget])) rfl
    show (execOp (a.put (some d5) V).eval ⟨some d2, .assign (.tmp d5), ty', pos', af', none⟩).run P w = _
    simp only [execOp, e, Sem.run_pure]
  · exact wpS_of_wp (k _ _ (s5.put h2 rfl))
theorem s_rec0 (s : St C n D H E M R a w) (hc : recoverD cs = none) (k : RK (y.wp P (fun e a w => Q e a cs w)) C n D H ((d2, true, .nilIface) :: (d5, true, .nilIface) :: E) M R) (h5 : Nat.blt d5 n = true) (h2 : Nat.blt d2 n = true) : (Code.seq (Code.region id #[⟨some d5, .call { callee := .builtin .recover, args := #[], argTypes := at_ }, ty, pos, af, none⟩, ⟨some d2, .assign (.tmp d5), ty', pos', af', none⟩] false) y).wpS P Q a cs w := by
  have s5 := s.put (d := d5) (b := true) (v := .nilIface) (u := .nilIface) h5 rfl
  refine wpS_seq (wpS_region ?_)
  show wpOpsS P _ _ [0, 1] a cs w
  refine opsS_rec0 rfl rfl rfl hc (opsS_val (v := .nilIface) rfl rfl ?_ ?_)
  · have e := s5.fits.ev (b := true) (x := .tmp d5) (v := .nilIface) (e1 (by simp [ev, eget])) rfl
    show (execOp (a.put (some d5) .nilIface).eval ⟨some d2, .assign (.tmp d5), ty', pos', af', none⟩).run P w = _
    simp only [execOp, e, Sem.run_pure]
  · exact wpS_of_wp (k _ _ (s5.put h2 rfl))
end
def PostS {β : Type} (w : World) (H : Gh) (S : List Nat) (v : β → Value) (M' : β → List (Nat × Obj)) (R' : β → List Rw) (F : Gh → β → Prop) : Ending → FrameMode → World → Prop := fun e u w' => settle u = .returning ∧ PostC w H S v M' R' F e w'
section
variable {β : Type} {vf : β → Value} {M' : β → List (Nat × Obj)} {R' : β → List Rw} {F : Gh → β → Prop} {fn : Func} {rs : List ResultVar} {vs : List Value} {w0 : World} {H0 : Gh} {S : List Nat} {c₀ : Frame} {cs : List Frame} {m' : FrameMode}
theorem x_fallS (y : β) (hm : settle m' = .returning) (hr : fn.results = rs.toArray) (h : RVs P E M rs vs) (hF : F H y) (hv : oneOf vs = vf y := by rfl) (hM : M' y = M := by rfl) (hR : R' y = R := by rfl) : RK (fun a w => bodyPostS P fn c₀ cs (PostS w0 H0 S vf M' R' F) .normal a ({ c₀ with mode := m' } :: cs) w) ⟨w0, S, H0⟩ n [] H E M R := fun _ _ s =>
  ⟨s.defs, m', rfl, _, results_run hr h s, hm, s.postc y hM hR hF _ (by rw [hv])⟩
end
theorem run_defer {f : Nat} {xs : List Operand} {at_ : Array TypeId} {vs : List Value} {ty : TypeId} {pos : String} {af : Array Edge} {gd : Option (Nat × Bool)} {dst : Option Nat} {a : Act} (hx : xs.map a.eval = vs) (w : World) :
    (execOp a.eval ⟨dst, .defer { callee := .value (.func f), args := xs.toArray, argTypes := at_ }, ty, pos, af, gd⟩).run P w = .ok (.defer { target := .fn (.func f) #[], args := vs.toArray }) w := by
  have e1 : xs.toArray.map a.eval = vs.toArray := by rw [List.map_toArray, hx]
  show ((do pure (.defer (← (pure { target := .fn (.func f) #[], args := #[] ++ xs.toArray.map a.eval } : Sem Deferred)))) : Sem Next).run P w = _
  simp only [Sem.run_bind, Sem.run_pure, Result.andThen_ok, e1, Array.empty_append]
abbrev dfr (f g : Nat) : Deferred := { target := .fn (.func f) #[], args := #[.pointer (some ⟨g, 0, none⟩)] }
theorem x_defer {f g : Nat} {x : Operand} {at_ : Array TypeId} {ty : TypeId} {pos : String} {af : Array Edge} (k : RK K C n (dfr f g :: D) H E M R) (hx : ev E x = some (true, .pointer (some ⟨g, 0, none⟩)) := by rfl) : RK (SX P ops Q ⟨none, .defer { callee := .value (.func f), args := #[x], argTypes := at_ }, ty, pos, af, none⟩ K) C n D H E M R := fun a w s => by
  unfold SX
  rw [if_pos (by simp [Region.wanted])]
  unfold Oper.wp
  have e := run_defer (P := P) (f := f) (xs := [x]) (at_ := at_) (vs := [.pointer (some ⟨g, 0, none⟩)]) (ty := ty) (pos := pos) (af := af) (gd := none) (dst := none) (a := a) (by simp [s.fits.ev (e1 (b := true) hx) rfl]) w
  rw [e]
  show K ({ a with defers := dfr f g :: a.defers }.put none undef) w
  refine k _ _ { s with fits := ⟨s.fits.size, s.fits.get⟩, defs := ?_ }
  show dfr f g :: a.defers = _
  rw [s.defs]
def Cd (P : Program) (f : FuncId) (g : Nat) (u : FrameMode) (o o' : Obj) : Prop := ∀ (H : Gh) (w : World), H.In w → Ow w H [(g, o)] [] → CallsD P f #[.pointer (some ⟨g, 0, none⟩)] u w (PostS w H [g] (fun _ : Unit => .tuple #[]) (fun _ => [(g, o')]) (fun _ => []) (fun _ _ => True))
theorem cd_of {f g : Nat} {u : FrameMode} {o o' : Obj} {fn : Func} {c : Code} (hf : P.funcs[f]? = some fn) (hb : fn.body = some c) (h : ∀ (w0 : World) (H : Gh) (c₀ : Frame) (cs : List Frame), c₀.mode = u → ∀ a, St ⟨w0, [g], H⟩ fn.ntmps [] H (envOf 0 [.pointer (some ⟨g, 0, none⟩)]) [(g, o)] [] a w0 → c.wpS P (bodyPostS P fn c₀ cs (PostS w0 H [g] (fun _ : Unit => .tuple #[]) (fun _ => [(g, o')]) (fun _ => []) (fun _ _ => True))) a (c₀ :: cs) w0) (hn : 1 ≤ fn.ntmps) : Cd P f g u o o' := fun H w hH ho =>
  callsD_of_wpS hf hb fun c₀ cs hu => h w H c₀ cs hu _ (startc w H hH fn.ntmps [.pointer (some ⟨g, 0, none⟩)] hn ho)
section
variable {fn : Func} {Rq : Ending → World → Prop} {g f : Nat} {o1 o2 : Obj} {u : FrameMode} {rs : List ResultVar} {vs : List Value} [hen : En P f]
theorem leaves_dfr (s : St C n [dfr f g] H E M R a w) (i : Nat) (hu : u ≠ .run) (hc : Cd P f g u o1 o2) (hi : M[i]? = some (g, o1)) (h0 : C.H0.Le H) (hq : ∀ w', St C n [dfr f g] H E ((g, o2) :: M.eraseIdx i) R a w' → ∃ v, (results fn a.tmps).run P w' = .ok v w' ∧ Rq (.returned v) w') : Leaves P fn a.tmps Rq a.defers u w := by
  rw [s.defs]
  have s1 : St C n [dfr f g] H E ([(g, o1)] ++ M.eraseIdx i) ([] ++ R) a w := s.perm (front_perm hi) (.refl _)
  have so := s1.ow
  have so' : Ow w H [(g, o1)] [] := ⟨fun q hq => so.mem q (List.mem_append_left _ hq), by simp, fun q hq => so.dis q (List.mem_append_left _ hq), by simp, by simp, by simp, List.Pairwise.nil⟩
  refine leaves_cons hu (f := f) (args := #[.pointer (some ⟨g, 0, none⟩)]) (by simp only [invoke, Array.append_empty]; exact hen.enters _ _) ((hc H w s.gin so').mono fun e u' w' ⟨h1, y, H', h2, h3, h4, h5, h6, h7, h8, _⟩ => ?_)
  subst h2
  show Leaves P fn a.tmps Rq [] (settle u') w'
  rw [h1]
  have s2 := s1.callc (M1 := [(g, o1)]) (R1 := []) (N := [(g, o2)]) (T := []) h3 h4 h5 h6 h7 h8
  exact k_less (K := fun a' w' => a' = a → ∃ v, (results fn a'.tmps).run P w' = .ok v w' ∧ Rq (.returned v) w') h4 h0 (fun a' w' s3 e => by subst e; exact hq w' s3) a w' s2 rfl
theorem x_retd {w0 : World} {H0 : Gh} {Rs : Gh → Value → Prop} (i : Nat) {e : Exit} (he : e = .ret ∨ e = .normal) (hc : Cd P f g .returning o1 o2) (hle : H0.Le H) (hi : M[i]? = some (g, o1)) (hr : fn.results = rs.toArray) (h : RVs P E ((g, o2) :: M.eraseIdx i) rs vs) (hR : Rs H (oneOf vs)) : RK (bodyPostD P fn (Post w0 H0 Rs) e) ⟨w0, [], H0⟩ n [dfr f g] H E M R := fun a w s => by
  have : Leaves P fn a.tmps (Post w0 H0 Rs) a.defers .returning w := leaves_dfr s i (by simp) hc hi hle fun w' s3 => ⟨_, results_run hr h s3, _, H, rfl, s3.kept, s3.gle, s3.gin, s3.gnew.new, hR⟩
  rcases he with rfl | rfl <;> exact this
theorem x_pand {w0 : World} {H0 : Gh} {Rs : Gh → Value → Prop} (i : Nat) {ch : List PanicEntry} (hc : Cd P f g (.panicking ch) o1 o2) (hle : H0.Le H) (hi : M[i]? = some (g, o1)) (hr : fn.results = rs.toArray) (h : RVs P E ((g, o2) :: M.eraseIdx i) rs vs) (hR : Rs H (oneOf vs)) : RK (bodyPostD P fn (Post w0 H0 Rs) (.panic ch)) ⟨w0, [], H0⟩ n [dfr f g] H E M R := fun a w s =>
  leaves_dfr s i (by simp) hc hi hle fun w' s3 => ⟨_, results_run hr h s3, _, H, rfl, s3.kept, s3.gle, s3.gin, s3.gnew.new, hR⟩
end
theorem x_retd0 {fn : Func} {rs : List ResultVar} {vs : List Value} {w0 : World} {H0 : Gh} {Rs : Gh → Value → Prop} {e : Exit} (he : e = .ret ∨ e = .normal) (hr : fn.results = rs.toArray) (h : RVs P E M rs vs) (hR : Rs H (oneOf vs)) : RK (bodyPostD P fn (Post w0 H0 Rs) e) ⟨w0, [], H0⟩ n [] H E M R := fun a w s => by
  have : Leaves P fn a.tmps (Post w0 H0 Rs) a.defers .returning w := by
    rw [s.defs]
    exact ⟨_, results_run hr h s, _, H, rfl, s.kept, s.gle, s.gin, s.gnew.new, hR⟩
  rcases he with rfl | rfl <;> exact this
theorem cd2_of {f : FuncId} {fn : Func} {c : Code} {args : List Value} {Rs : Gh → Value → Prop} (hf : P.funcs[f]? = some fn) (hb : fn.body = some c) (hn : fn.ntmps = n) (ha : Nat.ble args.length n = true) (h : ∀ w0, H.In w0 → RK (c.wp P (bodyPostD P fn (Post w0 H Rs))) ⟨w0, [], H⟩ n [] H (envOf 0 args) [] []) : Ct P f args H Rs := fun w hw => by
  refine calls_of_wp_defers hf hb ?_
  rw [hn]
  exact h w hw _ w (start w [] H hw n args (Nat.le_of_ble_eq_true ha) (by simp) (by simp) (by simp) (by simp))
end Go.Proofs.YtoakoffdjeleoaaGreat
end
section
namespace Go.Proofs.YtoakoffdjeleoaaGreat
open Go.RowKit
def limitsB (b : BS.Bn) : Prop := ∃ s ∈ BS.subsetsL (idsB b), limitB b s
instance (b : BS.Bn) (s : List Int) : Decidable (limitB b s) := by unfold limitB; infer_instance
instance (b : BS.Bn) : Decidable (limitsB b) := by unfold limitsB; infer_instance
def noneB (b : BS.Bn) : List (List Int) := (BS.subsetsL (idsB b)).filter fun s => !(agreesB b s)
def backB (b : BS.Bn) : List (List Int) := (BS.subsetsL (idsB b)).filter fun s => agreesB b ((idsB b).filter fun z_ => !(decide (z_ ∈ s)))
def conR (b : BS.Bn) : Int := if BS.checkB b = 0 then (if limitsB b then 2 else 0) else BS.checkB b
def conL (b : BS.Bn) : List (List Int) := if conR b = 0 then BS.minimalF (noneB b) else []
def witR (b : BS.Bn) : Int := if BS.checkB b = 0 then (if limitsB b then 2 else if backB b = [] then 9 else 0) else BS.checkB b
def witL (b : BS.Bn) : List (List Int) := if witR b = 0 then BS.minimalF (backB b) else []
def leaP (b : BS.Bn) : List (List Int) × Int := if witR b = 0 then BS.lightL (fun s => BS.weightTo b.ws s b.ac) (BS.minimalF (backB b)) else ([], 0)
section
variable {b : BS.Bn}
theorem con_bad (h : ¬ BS.checkB b = 0) : conR b = BS.checkB b ∧ conL b = [] := by
  have e : conR b = BS.checkB b := if_neg h
  exact ⟨e, if_neg (by rw [e]; exact h)⟩
theorem wit_bad (h : ¬ BS.checkB b = 0) : witR b = BS.checkB b ∧ witL b = [] ∧ leaP b = ([], 0) := by
  have e : witR b = BS.checkB b := if_neg h
  exact ⟨e, if_neg (by rw [e]; exact h), if_neg (by rw [e]; exact h)⟩
theorem con_limit (h : BS.checkB b = 0) (hl : limitsB b) : conR b = 2 ∧ conL b = [] := by
  have e : conR b = 2 := (if_pos h).trans (if_pos hl)
  exact ⟨e, if_neg (by rw [e]; decide)⟩
theorem wit_limit (h : BS.checkB b = 0) (hl : limitsB b) : witR b = 2 ∧ witL b = [] ∧ leaP b = ([], 0) := by
  have e : witR b = 2 := (if_pos h).trans (if_pos hl)
  exact ⟨e, if_neg (by rw [e]; decide), if_neg (by rw [e]; decide)⟩
theorem con_ok (h : BS.checkB b = 0) (hl : ¬ limitsB b) : conR b = 0 ∧ conL b = BS.minimalF (noneB b) := by
  have e : conR b = 0 := (if_pos h).trans (if_neg hl)
  exact ⟨e, if_pos e⟩
theorem wit_clash (h : BS.checkB b = 0) (hl : ¬ limitsB b) (hb : backB b = []) : witR b = 9 ∧ witL b = [] ∧ leaP b = ([], 0) := by
  have e : witR b = 9 := (if_pos h).trans ((if_neg hl).trans (if_pos hb))
  exact ⟨e, if_neg (by rw [e]; decide), if_neg (by rw [e]; decide)⟩
theorem wit_ok (h : BS.checkB b = 0) (hl : ¬ limitsB b) (hb : ¬ backB b = []) : witR b = 0 ∧ witL b = BS.minimalF (backB b) ∧ leaP b = BS.lightL (fun s => BS.weightTo b.ws s b.ac) (BS.minimalF (backB b)) := by
  have e : witR b = 0 := (if_pos h).trans ((if_neg hl).trans (if_neg hb))
  exact ⟨e, if_pos e, if_pos e⟩
theorem no_limits (h : ∀ s ∈ BS.subsetsL (idsB b), ¬ limitB b s) : ¬ limitsB b := fun ⟨s, h1, h2⟩ => h s h1 h2
theorem none_of {ff : ByteArray → Bool} (hse : ∀ s ∈ BS.subsetsL (idsB b), ff (keyB s) = agreesB b s) : (BS.subsetsL (idsB b)).filter (fun s => !(ff (keyB s))) = noneB b := List.filter_congr fun s hs => by rw [hse s hs]
theorem back_of {ff : ByteArray → Bool} (hse : ∀ s ∈ BS.subsetsL (idsB b), ff (keyB s) = agreesB b s) : (BS.subsetsL (idsB b)).filter (fun s => ff (keyB ((idsB b).filter fun z_ => !(decide (z_ ∈ s))))) = backB b := List.filter_congr fun s _ => hse _ (BS.filter_mem_subs _ _)
end
end Go.Proofs.YtoakoffdjeleoaaGreat
end
section
set_option maxRecDepth 4000
set_option maxHeartbeats 4000000
namespace Go.Proofs.YtoakoffdjeleoaaGreat
open Go.RowKit Go.Shelf
attribute [local irreducible] BS.narrow BS.lookL BS.findE BS.findR BS.volMax BS.parts BS.checkP BS.solE BS.solR BS.solveR BS.furtherR BS.onlyP BS.decideP BS.formedB BS.checkB BS.subsetsL BS.onlyB sortI BS.minimalF BS.lightL
theorem caught_pan (g : Nat) (c k : Int) : Cd Tryz.prog 82 g (.panicking (panE k)) (.cells [.int .i64 c].toArray 34 (0, 0)) (.cells [.int .i64 k].toArray 34 (0, 0)) := by
 refine cd_of Tryz.func82 rfl (fun w0 H c₀ cs hu a s => ?_) (by decide);refine s_rec (V := .iface 34 (.int .i64 k)) (cs' := { c₀ with mode := .panicking [{ v := .iface 34 (.int .i64 k), recovered := true }] } :: cs) s (by simp [recoverD, hu]) ?_ rfl rfl;show RK _ _ _ _ _ ((2, true, .iface 34 (.int .i64 k)) :: (5, true, .iface 34 (.int .i64 k)) :: envOf 0 [.pointer (some ⟨g, 0, none⟩)]) [(g, .cells [.int .i64 c].toArray 34 (0, 0))] [];refine c_seq<|c_region ?_;refine lm ?_;refine l_v (p_ifn Tryz.underlying20 .no (by exact e1 rfl)) ?_;refine l_end<|x_next ?_;refine c_then rfl ?_;refine c_seq<|c_region ?_;refine lm ?_;refine l_v (p_ta Tryz.underlying34 .no (by exact e1 rfl)) ?_;refine lm ?_;refine lext ?_;refine lext ?_;refine la ?_;refine la ?_;refine l_end<|x_next<|c_seq<|c_seq<|c_region ?_;refine lm ?_;refine lnot ?_;refine l_end<|x_next ?_;refine c_else rfl ?_;refine c_skip ?_;refine x_next ?_
 refine c_region ?_;refine lm ?_;refine lm ?_;refine lnil ?_;refine lst 0 ([.int .i64 k]) ([.int .i64 k]) ?_;refine l_end ?_;exact x_fallS (rs := []) (vs := []) () (by first | rfl | (rw [hu]; rfl)) rfl trivial trivial
theorem caught_ret (g : Nat) (c : Int) : Cd Tryz.prog 82 g .returning (.cells [.int .i64 c].toArray 34 (0, 0)) (.cells [.int .i64 c].toArray 34 (0, 0)) := by
 refine cd_of Tryz.func82 rfl (fun w0 H c₀ cs hu a s => ?_) (by decide);refine s_rec0 s (by simp [recoverD, hu]) ?_ rfl rfl;show RK _ _ _ _ _ ((2, true, .nilIface) :: (5, true, .nilIface) :: envOf 0 [.pointer (some ⟨g, 0, none⟩)]) [(g, .cells [.int .i64 c].toArray 34 (0, 0))] [];refine c_seq<|c_region ?_;refine lm ?_;refine l_v (p_if0 Tryz.underlying20 .no (by exact e1 rfl)) ?_;refine l_end<|x_next ?_;refine c_else rfl ?_;refine c_skip ?_;exact x_fallS (rs := []) (vs := []) () (by first | rfl | (rw [hu]; rfl)) rfl trivial trivial
end Go.Proofs.YtoakoffdjeleoaaGreat
end
section
set_option maxRecDepth 4000
set_option maxHeartbeats 4000000
namespace Go.Proofs.YtoakoffdjeleoaaGreat
open Go.RowKit Go.Shelf
attribute [local irreducible] BS.narrow BS.lookL BS.findE BS.findR BS.volMax BS.parts BS.checkP BS.solE BS.solR BS.solveR BS.furtherR BS.onlyP BS.decideP BS.formedB BS.checkB BS.subsetsL BS.onlyB sortI BS.minimalF BS.lightL
theorem idsB_l {W : List BS.Wi} {C : List BS.Ac} {l : List BS.Bx} {F : List BS.Fc} : (BS.aIds C).length = (idsB (⟨W, C, ⟨l, F⟩⟩ : BS.Bn)).length := (sortI_length _).symm
theorem con_exp {H : Gh} {Aw Aa A B : Option Addr} {cw ca c d : Nat} (W : List BS.Wi) (C : List BS.Ac) (l : List BS.Bx) (F : List BS.Fc) (hW : GRow H Aw cw encWi 3 W) (hC : GRow H Aa ca encAc 2 C) (hl : GRow H A c encBx 4 l) (hF : GRow H B d encFc 9 F) : Ct Tryz.prog 30 [.agg [.slice Aw W.length cw, .slice Aa C.length ca, .slice A l.length c, .slice B F.length d].toArray] H fun H' v => ∃ A1 c1 M, v = .tuple [.slice A1 M.length c1, .int .i64 (conR (⟨W, C, ⟨l, F⟩⟩ : BS.Bn))].toArray ∧ GRow H' A1 c1 encS 1 M ∧ GSets H' encI 1 M ∧ svs M = conL (⟨W, C, ⟨l, F⟩⟩ : BS.Bn) := by
 refine cd2_of Tryz.func30 rfl Tryz.ntmps30 rfl fun w0 hw => ?_;refine c_seq<|c_region ?_;refine lbx ([.slice Aw W.length cw, .slice Aa C.length ca, .slice A l.length c, .slice B F.length d]) (fun m1 hm2 => ?_);refine la ?_;refine lal (fun m3 hm4 => ?_);refine l_end<|x_next<|c_seq<|c_seq<|c_region ?_;refine lk 1 ([.slice Aw W.length cw, .slice Aa C.length ca, .slice A l.length c, .slice B F.length d]) ?_;refine lcl (checkB_cv W C l F hW hC hl hF) ?_;refine la ?_;refine l_end<|x_next<|c_seq<|c_region ?_;refine lm ?_;refine lneq ?_;refine l_end<|x_next ?_;refine c_if (by rfl) (fun h5 => ?_) (fun h5 => ?_)
 ·have h5' := h5;(try simp only [bps] at h5);refine c_seq<|c_region ?_;refine lm ?_;refine la ?_;refine lst 0 ([.int .i64 (BS.checkB (⟨W, C, ⟨l, F⟩⟩ : BS.Bn))]) ([.int .i64 (BS.checkB (⟨W, C, ⟨l, F⟩⟩ : BS.Bn))]) ?_;refine l_end<|x_next ?_;refine c_ret ?_;refine x_tr ?_;exact x_retd0 (vs := [.slice none 0 0, .int .i64 (BS.checkB (⟨W, C, ⟨l, F⟩⟩ : BS.Bn))]) (.inl rfl) rfl ⟨rfl, rv_cell1 0, trivial⟩ (⟨none, 0, [], by rw [(con_bad h5).1]; rfl, GRow.nil _ _ _, gs_nil, by rw [(con_bad h5).2]; rfl⟩)
 ·have h5' := h5;(try simp only [bps] at h5);refine c_skip ?_;refine x_next<|c_seq<|c_region ?_;refine l_x (x_defer ?_);refine l_end ?_;have hc0 : BS.checkB (⟨W, C, ⟨l, F⟩⟩ : BS.Bn) = 0 := Decidable.not_not.1 h5;have hgb : BS.GoodB (⟨W, C, ⟨l, F⟩⟩ : BS.Bn) := BS.checkB_good hc0;refine x_next<|c_seq<|c_region ?_;refine lk 1 ([.slice Aw W.length cw, .slice Aa C.length ca, .slice A l.length c, .slice B F.length d]) ?_;refine l_x (x_callg (Rs := (fun H' v => ∃ (Ai : Option Addr) (ci gm : Nat) (kv : KV ByteArray) (ff : ByteArray → Bool), v = .agg [.slice Aw W.length cw, .slice Aa C.length ca, .slice A l.length c, .slice B F.length d, .slice Ai (BS.aIds C).length ci, .map (some gm)].toArray ∧ GRow H' Ai ci encI 1 (idsB (⟨W, C, ⟨l, F⟩⟩ : BS.Bn)) ∧ H' gm = some (mapObj mkS kv) ∧ MapIs kv (.bool false) Value.bool ff ∧ (∀ s ∈ BS.subsetsL (idsB (⟨W, C, ⟨l, F⟩⟩ : BS.Bn)), ff (keyB s) = agreesB (⟨W, C, ⟨l, F⟩⟩ : BS.Bn) s) ∧ (∀ s ∈ BS.subsetsL (idsB (⟨W, C, ⟨l, F⟩⟩ : BS.Bn)), ¬ limitB (⟨W, C, ⟨l, F⟩⟩ : BS.Bn) s))) (Pc := (fun ch => ch = panE 2 ∧ ∃ s ∈ BS.subsetsL (idsB (⟨W, C, ⟨l, F⟩⟩ : BS.Bn)), limitB (⟨W, C, ⟨l, F⟩⟩ : BS.Bn) s)) (vs := [.agg [.slice Aw W.length cw, .slice Aa C.length ca, .slice A l.length c, .slice B F.length d].toArray]) (dst := some 11) ?_ (fun H6 v7 le8 r9 => ?_) (fun ch_ hp_ => (by obtain ⟨rfl, hpx⟩ := hp_; (repeat first | refine x_bp ?_ | refine x_tp ?_); exact x_pand (vs := [.slice none 0 0, .int .i64 2]) 0 (caught_pan _ _ _) (Gh.Le.refl _) rfl rfl ⟨rfl, rv_cell1 0, trivial⟩ (⟨none, 0, [], by rw [(con_limit hc0 hpx).1]; rfl, GRow.nil _ _ _, gs_nil, by rw [(con_limit hc0 hpx).2]; rfl⟩))) (hx := ⟨(by exact e1 rfl), trivial⟩))
  ·exact looked_cg W C l F hW hC hl hF hgb
  obtain ⟨A10, c11, gm12, kv13, ff14, rfl, hi15, hgm16, hkv17, hse18, hnl19⟩ := r9;show RK _ _ _ _ _ ((11, true, .agg [.slice Aw W.length cw, .slice Aa C.length ca, .slice A l.length c, .slice B F.length d, .slice A10 (BS.aIds C).length c11, .map (some gm12)].toArray) :: _) [(m3, .cells ([.int .i64 0]).toArray 34 (0, 0)), (m1, .cells ([.slice Aw W.length cw, .slice Aa C.length ca, .slice A l.length c, .slice B F.length d]).toArray 29 (0, 0))] [];refine l_x (x_callg (Rs := (fun H' v => ∃ A c M, v = .slice A M.length c ∧ GRow H' A c encS 1 M ∧ GSets H' encI 1 M ∧ svs M = BS.minimalF ((BS.subsetsL (idsB (⟨W, C, ⟨l, F⟩⟩ : BS.Bn))).filter fun s => !(ff14 (keyB s))))) (Pc := (fun _ => False)) (vs := [.agg [.slice Aw W.length cw, .slice Aa C.length ca, .slice A l.length c, .slice B F.length d, .slice A10 (BS.aIds C).length c11, .map (some gm12)].toArray]) (dst := some 12) ?_ (fun H20 v21 le22 r23 => ?_) (fun ch_ hp_ => (hp_.elim)) (hx := ⟨(by exact e1 rfl), trivial⟩))
  ·exact contradictions_cg W C l F (idsB (⟨W, C, ⟨l, F⟩⟩ : BS.Bn)) (hW.le le8) (hC.le le8) (hl.le le8) (hF.le le8) hi15 idsB_l hgm16 hkv17 (idsB_lt hgb) (Nat.le_trans (idsB_len hgb) (by decide))
  obtain ⟨A24, c25, M26, rfl, hf27, hg28, hm29⟩ := r23;show RK _ _ _ _ _ ((12, true, .slice A24 M26.length c25) :: _) [(m3, .cells ([.int .i64 0]).toArray 34 (0, 0)), (m1, .cells ([.slice Aw W.length cw, .slice Aa C.length ca, .slice A l.length c, .slice B F.length d]).toArray 29 (0, 0))] [];refine la ?_;refine lst 0 ([.int .i64 0]) ([.int .i64 0]) ?_;refine l_end<|x_next ?_;refine c_ret ?_;exact x_retd (vs := [.slice A24 M26.length c25, .int .i64 0]) 0 (.inl rfl) (caught_ret _ _) (Gh.Le.trans le8 le22) rfl rfl ⟨rfl, rv_cell1 0, trivial⟩ (⟨_, _, M26, by rw [(con_ok hc0 (no_limits hnl19)).1]; rfl, hf27, hg28, by rw [(con_ok hc0 (no_limits hnl19)).2, hm29, none_of hse18]⟩)
theorem lea_exp {H : Gh} {Aw Aa A B : Option Addr} {cw ca c d : Nat} (W : List BS.Wi) (C : List BS.Ac) (l : List BS.Bx) (F : List BS.Fc) (hW : GRow H Aw cw encWi 3 W) (hC : GRow H Aa ca encAc 2 C) (hl : GRow H A c encBx 4 l) (hF : GRow H B d encFc 9 F) : Ct Tryz.prog 31 [.agg [.slice Aw W.length cw, .slice Aa C.length ca, .slice A l.length c, .slice B F.length d].toArray] H fun H' v => ∃ A1 c1 M, v = .tuple [.slice A1 M.length c1, .int .i64 (witR (⟨W, C, ⟨l, F⟩⟩ : BS.Bn))].toArray ∧ GRow H' A1 c1 encS 1 M ∧ GSets H' encI 1 M ∧ svs M = (leaP (⟨W, C, ⟨l, F⟩⟩ : BS.Bn)).1 := by
 refine cd2_of Tryz.func31 rfl Tryz.ntmps31 rfl fun w0 hw => ?_;refine c_seq<|c_region ?_;refine lbx ([.slice Aw W.length cw, .slice Aa C.length ca, .slice A l.length c, .slice B F.length d]) (fun m1 hm2 => ?_);refine la ?_;refine lal (fun m3 hm4 => ?_);refine l_end<|x_next<|c_seq<|c_seq<|c_region ?_;refine lk 1 ([.slice Aw W.length cw, .slice Aa C.length ca, .slice A l.length c, .slice B F.length d]) ?_;refine lcl (checkB_cv W C l F hW hC hl hF) ?_;refine la ?_;refine l_end<|x_next<|c_seq<|c_region ?_;refine lm ?_;refine lneq ?_;refine l_end<|x_next ?_;refine c_if (by rfl) (fun h5 => ?_) (fun h5 => ?_)
 ·have h5' := h5;(try simp only [bps] at h5);refine c_seq<|c_region ?_;refine lm ?_;refine la ?_;refine lst 0 ([.int .i64 (BS.checkB (⟨W, C, ⟨l, F⟩⟩ : BS.Bn))]) ([.int .i64 (BS.checkB (⟨W, C, ⟨l, F⟩⟩ : BS.Bn))]) ?_;refine l_end<|x_next ?_;refine c_ret ?_;refine x_tr ?_;exact x_retd0 (vs := [.slice none 0 0, .int .i64 (BS.checkB (⟨W, C, ⟨l, F⟩⟩ : BS.Bn))]) (.inl rfl) rfl ⟨rfl, rv_cell1 0, trivial⟩ (⟨none, 0, [], by rw [(wit_bad h5).1]; rfl, GRow.nil _ _ _, gs_nil, by rw [(wit_bad h5).2.2]; rfl⟩)
 ·have h5' := h5;(try simp only [bps] at h5);refine c_skip ?_;refine x_next<|c_seq<|c_region ?_;refine l_x (x_defer ?_);refine l_end ?_;have hc0 : BS.checkB (⟨W, C, ⟨l, F⟩⟩ : BS.Bn) = 0 := Decidable.not_not.1 h5;have hgb : BS.GoodB (⟨W, C, ⟨l, F⟩⟩ : BS.Bn) := BS.checkB_good hc0;refine x_next<|c_seq<|c_region ?_;refine lk 1 ([.slice Aw W.length cw, .slice Aa C.length ca, .slice A l.length c, .slice B F.length d]) ?_;refine l_x (x_callg (Rs := (fun H' v => ∃ (Ai : Option Addr) (ci gm : Nat) (kv : KV ByteArray) (ff : ByteArray → Bool), v = .agg [.slice Aw W.length cw, .slice Aa C.length ca, .slice A l.length c, .slice B F.length d, .slice Ai (BS.aIds C).length ci, .map (some gm)].toArray ∧ GRow H' Ai ci encI 1 (idsB (⟨W, C, ⟨l, F⟩⟩ : BS.Bn)) ∧ H' gm = some (mapObj mkS kv) ∧ MapIs kv (.bool false) Value.bool ff ∧ (∀ s ∈ BS.subsetsL (idsB (⟨W, C, ⟨l, F⟩⟩ : BS.Bn)), ff (keyB s) = agreesB (⟨W, C, ⟨l, F⟩⟩ : BS.Bn) s) ∧ (∀ s ∈ BS.subsetsL (idsB (⟨W, C, ⟨l, F⟩⟩ : BS.Bn)), ¬ limitB (⟨W, C, ⟨l, F⟩⟩ : BS.Bn) s))) (Pc := (fun ch => ch = panE 2 ∧ ∃ s ∈ BS.subsetsL (idsB (⟨W, C, ⟨l, F⟩⟩ : BS.Bn)), limitB (⟨W, C, ⟨l, F⟩⟩ : BS.Bn) s)) (vs := [.agg [.slice Aw W.length cw, .slice Aa C.length ca, .slice A l.length c, .slice B F.length d].toArray]) (dst := some 12) ?_ (fun H6 v7 le8 r9 => ?_) (fun ch_ hp_ => (by obtain ⟨rfl, hpx⟩ := hp_; (repeat first | refine x_bp ?_ | refine x_tp ?_); exact x_pand (vs := [.slice none 0 0, .int .i64 2]) 0 (caught_pan _ _ _) (Gh.Le.refl _) rfl rfl ⟨rfl, rv_cell1 0, trivial⟩ (⟨none, 0, [], by rw [(wit_limit hc0 hpx).1]; rfl, GRow.nil _ _ _, gs_nil, by rw [(wit_limit hc0 hpx).2.2]; rfl⟩))) (hx := ⟨(by exact e1 rfl), trivial⟩))
  ·exact looked_cg W C l F hW hC hl hF hgb
  obtain ⟨A10, c11, gm12, kv13, ff14, rfl, hi15, hgm16, hkv17, hse18, hnl19⟩ := r9;show RK _ _ _ _ _ ((12, true, .agg [.slice Aw W.length cw, .slice Aa C.length ca, .slice A l.length c, .slice B F.length d, .slice A10 (BS.aIds C).length c11, .map (some gm12)].toArray) :: _) [(m3, .cells ([.int .i64 0]).toArray 34 (0, 0)), (m1, .cells ([.slice Aw W.length cw, .slice Aa C.length ca, .slice A l.length c, .slice B F.length d]).toArray 29 (0, 0))] [];refine l_x (x_callg (Rs := (fun H' v => ∃ A1 c1 M, v = .tuple [.slice A1 M.length c1, .int .i64 (BS.lightL (fun s => BS.weightTo W s C) (BS.minimalF ((BS.subsetsL (idsB (⟨W, C, ⟨l, F⟩⟩ : BS.Bn))).filter fun s => ff14 (keyB ((idsB (⟨W, C, ⟨l, F⟩⟩ : BS.Bn)).filter fun z_ => !(decide (z_ ∈ s))))))).2].toArray ∧ GRow H' A1 c1 encS 1 M ∧ GSets H' encI 1 M ∧ (svs M = (BS.lightL (fun s => BS.weightTo W s C) (BS.minimalF ((BS.subsetsL (idsB (⟨W, C, ⟨l, F⟩⟩ : BS.Bn))).filter fun s => ff14 (keyB ((idsB (⟨W, C, ⟨l, F⟩⟩ : BS.Bn)).filter fun z_ => !(decide (z_ ∈ s))))))).1 ∧ ¬ ((BS.subsetsL (idsB (⟨W, C, ⟨l, F⟩⟩ : BS.Bn))).filter fun s => ff14 (keyB ((idsB (⟨W, C, ⟨l, F⟩⟩ : BS.Bn)).filter fun z_ => !(decide (z_ ∈ s))))) = []))) (Pc := (fun ch => ch = panE 9 ∧ ((BS.subsetsL (idsB (⟨W, C, ⟨l, F⟩⟩ : BS.Bn))).filter fun s => ff14 (keyB ((idsB (⟨W, C, ⟨l, F⟩⟩ : BS.Bn)).filter fun z_ => !(decide (z_ ∈ s))))) = [])) (vs := [.agg [.slice Aw W.length cw, .slice Aa C.length ca, .slice A l.length c, .slice B F.length d, .slice A10 (BS.aIds C).length c11, .map (some gm12)].toArray]) (dst := some 13) ?_ (fun H20 v21 le22 r23 => ?_) (fun ch_ hp_ => (by obtain ⟨rfl, hpx⟩ := hp_; (repeat first | refine x_bp ?_ | refine x_tp ?_); exact x_pand (vs := [.slice none 0 0, .int .i64 9]) 0 (caught_pan _ _ _) le8 rfl rfl ⟨rfl, rv_cell1 0, trivial⟩ (⟨none, 0, [], by rw [(wit_clash hc0 (no_limits hnl19) (by rw [back_of hse18] at hpx; exact hpx)).1]; rfl, GRow.nil _ _ _, gs_nil, by rw [(wit_clash hc0 (no_limits hnl19) (by rw [back_of hse18] at hpx; exact hpx)).2.2]; rfl⟩))) (hx := ⟨(by exact e1 rfl), trivial⟩))
  ·exact least_cg W C l F (idsB (⟨W, C, ⟨l, F⟩⟩ : BS.Bn)) (hW.le le8) (hC.le le8) (hl.le le8) (hF.le le8) hi15 idsB_l hgm16 hkv17 (idsB_lt hgb) (Nat.le_trans (idsB_len hgb) (by decide)) (fun w hw => ((BS.validW_iff).1 (hgb.hw w hw)).2) (Nat.le_trans hgb.na (by decide))
  obtain ⟨A24, c25, M26, rfl, hf27, hg28, hm29, hne30⟩ := r23;show RK _ _ _ _ _ ((13, true, .tuple #[.slice A24 M26.length c25, .int .i64 (BS.lightL (fun s => BS.weightTo W s C) (BS.minimalF ((BS.subsetsL (idsB (⟨W, C, ⟨l, F⟩⟩ : BS.Bn))).filter fun s => ff14 (keyB ((idsB (⟨W, C, ⟨l, F⟩⟩ : BS.Bn)).filter fun z_ => !(decide (z_ ∈ s))))))).2]) :: _) [(m3, .cells ([.int .i64 0]).toArray 34 (0, 0)), (m1, .cells ([.slice Aw W.length cw, .slice Aa C.length ca, .slice A l.length c, .slice B F.length d]).toArray 29 (0, 0))] [];refine lm ?_;refine lext ?_;refine lext ?_;refine la ?_;refine l_end<|x_next<|c_seq<|c_region ?_;refine lm ?_;refine la ?_;refine lst 0 ([.int .i64 0]) ([.int .i64 0]) ?_;refine l_end<|x_next ?_;refine c_ret ?_;exact x_retd (vs := [.slice A24 M26.length c25, .int .i64 0]) 0 (.inl rfl) (caught_ret _ _) (Gh.Le.trans le8 le22) rfl rfl ⟨rfl, rv_cell1 0, trivial⟩ (⟨_, _, M26, by rw [(wit_ok hc0 (no_limits hnl19) (by rw [back_of hse18] at hne30; exact hne30)).1]; rfl, hf27, hg28, by rw [(wit_ok hc0 (no_limits hnl19) (by rw [back_of hse18] at hne30; exact hne30)).2.2, hm29, back_of hse18]⟩)
theorem pri_exp {H : Gh} {Aw Aa A B : Option Addr} {cw ca c d : Nat} (W : List BS.Wi) (C : List BS.Ac) (l : List BS.Bx) (F : List BS.Fc) (hW : GRow H Aw cw encWi 3 W) (hC : GRow H Aa ca encAc 2 C) (hl : GRow H A c encBx 4 l) (hF : GRow H B d encFc 9 F) : Ct Tryz.prog 32 [.agg [.slice Aw W.length cw, .slice Aa C.length ca, .slice A l.length c, .slice B F.length d].toArray] H fun _ v => v = .tuple [.int .i64 (leaP (⟨W, C, ⟨l, F⟩⟩ : BS.Bn)).2, .int .i64 (witR (⟨W, C, ⟨l, F⟩⟩ : BS.Bn))].toArray := by
 refine cd2_of Tryz.func32 rfl Tryz.ntmps32 rfl fun w0 hw => ?_;refine c_seq<|c_region ?_;refine lbx ([.slice Aw W.length cw, .slice Aa C.length ca, .slice A l.length c, .slice B F.length d]) (fun m1 hm2 => ?_);refine la ?_;refine lal (fun m3 hm4 => ?_);refine l_end<|x_next<|c_seq<|c_seq<|c_region ?_;refine lk 1 ([.slice Aw W.length cw, .slice Aa C.length ca, .slice A l.length c, .slice B F.length d]) ?_;refine lcl (checkB_cv W C l F hW hC hl hF) ?_;refine la ?_;refine l_end<|x_next<|c_seq<|c_region ?_;refine lm ?_;refine lneq ?_;refine l_end<|x_next ?_;refine c_if (by rfl) (fun h5 => ?_) (fun h5 => ?_)
 ·have h5' := h5;(try simp only [bps] at h5);refine c_seq<|c_region ?_;refine lm ?_;refine la ?_;refine lst 0 ([.int .i64 (BS.checkB (⟨W, C, ⟨l, F⟩⟩ : BS.Bn))]) ([.int .i64 (BS.checkB (⟨W, C, ⟨l, F⟩⟩ : BS.Bn))]) ?_;refine l_end<|x_next ?_;refine c_ret ?_;refine x_tr ?_;exact x_retd0 (vs := [.int .i64 0, .int .i64 (BS.checkB (⟨W, C, ⟨l, F⟩⟩ : BS.Bn))]) (.inl rfl) rfl ⟨rfl, rv_cell1 0, trivial⟩ (by rw [(wit_bad h5).1, (wit_bad h5).2.2]; rfl)
 ·have h5' := h5;(try simp only [bps] at h5);refine c_skip ?_;refine x_next<|c_seq<|c_region ?_;refine l_x (x_defer ?_);refine l_end ?_;have hc0 : BS.checkB (⟨W, C, ⟨l, F⟩⟩ : BS.Bn) = 0 := Decidable.not_not.1 h5;have hgb : BS.GoodB (⟨W, C, ⟨l, F⟩⟩ : BS.Bn) := BS.checkB_good hc0;refine x_next<|c_seq<|c_region ?_;refine lk 1 ([.slice Aw W.length cw, .slice Aa C.length ca, .slice A l.length c, .slice B F.length d]) ?_;refine l_x (x_callg (Rs := (fun H' v => ∃ (Ai : Option Addr) (ci gm : Nat) (kv : KV ByteArray) (ff : ByteArray → Bool), v = .agg [.slice Aw W.length cw, .slice Aa C.length ca, .slice A l.length c, .slice B F.length d, .slice Ai (BS.aIds C).length ci, .map (some gm)].toArray ∧ GRow H' Ai ci encI 1 (idsB (⟨W, C, ⟨l, F⟩⟩ : BS.Bn)) ∧ H' gm = some (mapObj mkS kv) ∧ MapIs kv (.bool false) Value.bool ff ∧ (∀ s ∈ BS.subsetsL (idsB (⟨W, C, ⟨l, F⟩⟩ : BS.Bn)), ff (keyB s) = agreesB (⟨W, C, ⟨l, F⟩⟩ : BS.Bn) s) ∧ (∀ s ∈ BS.subsetsL (idsB (⟨W, C, ⟨l, F⟩⟩ : BS.Bn)), ¬ limitB (⟨W, C, ⟨l, F⟩⟩ : BS.Bn) s))) (Pc := (fun ch => ch = panE 2 ∧ ∃ s ∈ BS.subsetsL (idsB (⟨W, C, ⟨l, F⟩⟩ : BS.Bn)), limitB (⟨W, C, ⟨l, F⟩⟩ : BS.Bn) s)) (vs := [.agg [.slice Aw W.length cw, .slice Aa C.length ca, .slice A l.length c, .slice B F.length d].toArray]) (dst := some 12) ?_ (fun H6 v7 le8 r9 => ?_) (fun ch_ hp_ => (by obtain ⟨rfl, hpx⟩ := hp_; (repeat first | refine x_bp ?_ | refine x_tp ?_); exact x_pand (vs := [.int .i64 0, .int .i64 2]) 0 (caught_pan _ _ _) (Gh.Le.refl _) rfl rfl ⟨rfl, rv_cell1 0, trivial⟩ (by rw [(wit_limit hc0 hpx).1, (wit_limit hc0 hpx).2.2]; rfl))) (hx := ⟨(by exact e1 rfl), trivial⟩))
  ·exact looked_cg W C l F hW hC hl hF hgb
  obtain ⟨A10, c11, gm12, kv13, ff14, rfl, hi15, hgm16, hkv17, hse18, hnl19⟩ := r9;show RK _ _ _ _ _ ((12, true, .agg [.slice Aw W.length cw, .slice Aa C.length ca, .slice A l.length c, .slice B F.length d, .slice A10 (BS.aIds C).length c11, .map (some gm12)].toArray) :: _) [(m3, .cells ([.int .i64 0]).toArray 34 (0, 0)), (m1, .cells ([.slice Aw W.length cw, .slice Aa C.length ca, .slice A l.length c, .slice B F.length d]).toArray 29 (0, 0))] [];refine l_x (x_callg (Rs := (fun H' v => ∃ A1 c1 M, v = .tuple [.slice A1 M.length c1, .int .i64 (BS.lightL (fun s => BS.weightTo W s C) (BS.minimalF ((BS.subsetsL (idsB (⟨W, C, ⟨l, F⟩⟩ : BS.Bn))).filter fun s => ff14 (keyB ((idsB (⟨W, C, ⟨l, F⟩⟩ : BS.Bn)).filter fun z_ => !(decide (z_ ∈ s))))))).2].toArray ∧ GRow H' A1 c1 encS 1 M ∧ GSets H' encI 1 M ∧ (svs M = (BS.lightL (fun s => BS.weightTo W s C) (BS.minimalF ((BS.subsetsL (idsB (⟨W, C, ⟨l, F⟩⟩ : BS.Bn))).filter fun s => ff14 (keyB ((idsB (⟨W, C, ⟨l, F⟩⟩ : BS.Bn)).filter fun z_ => !(decide (z_ ∈ s))))))).1 ∧ ¬ ((BS.subsetsL (idsB (⟨W, C, ⟨l, F⟩⟩ : BS.Bn))).filter fun s => ff14 (keyB ((idsB (⟨W, C, ⟨l, F⟩⟩ : BS.Bn)).filter fun z_ => !(decide (z_ ∈ s))))) = []))) (Pc := (fun ch => ch = panE 9 ∧ ((BS.subsetsL (idsB (⟨W, C, ⟨l, F⟩⟩ : BS.Bn))).filter fun s => ff14 (keyB ((idsB (⟨W, C, ⟨l, F⟩⟩ : BS.Bn)).filter fun z_ => !(decide (z_ ∈ s))))) = [])) (vs := [.agg [.slice Aw W.length cw, .slice Aa C.length ca, .slice A l.length c, .slice B F.length d, .slice A10 (BS.aIds C).length c11, .map (some gm12)].toArray]) (dst := some 13) ?_ (fun H20 v21 le22 r23 => ?_) (fun ch_ hp_ => (by obtain ⟨rfl, hpx⟩ := hp_; (repeat first | refine x_bp ?_ | refine x_tp ?_); exact x_pand (vs := [.int .i64 0, .int .i64 9]) 0 (caught_pan _ _ _) le8 rfl rfl ⟨rfl, rv_cell1 0, trivial⟩ (by rw [(wit_clash hc0 (no_limits hnl19) (by rw [back_of hse18] at hpx; exact hpx)).1, (wit_clash hc0 (no_limits hnl19) (by rw [back_of hse18] at hpx; exact hpx)).2.2]; rfl))) (hx := ⟨(by exact e1 rfl), trivial⟩))
  ·exact least_cg W C l F (idsB (⟨W, C, ⟨l, F⟩⟩ : BS.Bn)) (hW.le le8) (hC.le le8) (hl.le le8) (hF.le le8) hi15 idsB_l hgm16 hkv17 (idsB_lt hgb) (Nat.le_trans (idsB_len hgb) (by decide)) (fun w hw => ((BS.validW_iff).1 (hgb.hw w hw)).2) (Nat.le_trans hgb.na (by decide))
  obtain ⟨A24, c25, M26, rfl, hf27, hg28, hm29, hne30⟩ := r23;show RK _ _ _ _ _ ((13, true, .tuple #[.slice A24 M26.length c25, .int .i64 (BS.lightL (fun s => BS.weightTo W s C) (BS.minimalF ((BS.subsetsL (idsB (⟨W, C, ⟨l, F⟩⟩ : BS.Bn))).filter fun s => ff14 (keyB ((idsB (⟨W, C, ⟨l, F⟩⟩ : BS.Bn)).filter fun z_ => !(decide (z_ ∈ s))))))).2]) :: _) [(m3, .cells ([.int .i64 0]).toArray 34 (0, 0)), (m1, .cells ([.slice Aw W.length cw, .slice Aa C.length ca, .slice A l.length c, .slice B F.length d]).toArray 29 (0, 0))] [];refine lm ?_;refine lext ?_;refine lext ?_;refine la ?_;refine l_end<|x_next<|c_seq<|c_region ?_;refine lm ?_;refine la ?_;refine lst 0 ([.int .i64 0]) ([.int .i64 0]) ?_;refine l_end<|x_next ?_;refine c_ret ?_;exact x_retd (vs := [.int .i64 (BS.lightL (fun s => BS.weightTo W s C) (BS.minimalF ((BS.subsetsL (idsB (⟨W, C, ⟨l, F⟩⟩ : BS.Bn))).filter fun s => ff14 (keyB ((idsB (⟨W, C, ⟨l, F⟩⟩ : BS.Bn)).filter fun z_ => !(decide (z_ ∈ s))))))).2, .int .i64 0]) 0 (.inl rfl) (caught_ret _ _) (Gh.Le.trans le8 le22) rfl rfl ⟨rfl, rv_cell1 0, trivial⟩ (by rw [(wit_ok hc0 (no_limits hnl19) (by rw [back_of hse18] at hne30; exact hne30)).1, (wit_ok hc0 (no_limits hnl19) (by rw [back_of hse18] at hne30; exact hne30)).2.2, back_of hse18]; rfl)
end Go.Proofs.YtoakoffdjeleoaaGreat
end
section
namespace BS
structure Vd where
  every : Int
  fr : Bool
  ag : Bool
  deriving DecidableEq
section
variable (D : List Int → Int × Int) (L : List (List Int))
def judY (i : Nat) : Bool := (L.take i).all fun s => decide ((D s).1 = 2)
def judN (i : Nat) : Bool := (L.take i).all fun s => decide ((D s).1 = 1)
def judF (i : Nat) : Bool := (L.take i).any fun s => decide ((D s).1 = 2)
def judA (i : Nat) : Bool := (L.take i).any fun s => decide ((D s).1 = 1)
def judE : Int := match L.find? fun s => decide ((D s).2 ≠ 0) with
  | some s => (D s).2
  | none => 0
def judV : Vd := ⟨if judN D L L.length = true then 1 else if judY D L L.length = true then 2 else 3, judF D L L.length, judA D L L.length⟩
variable {D L} {i : Nat}
theorem judY_succ (hi : i < L.length) : judY D L (i + 1) = (judY D L i && decide ((D (L.getD i [])).1 = 2)) := by rw [judY, take_succ_getD _ [] hi, List.all_append]; simp [judY]
theorem judN_succ (hi : i < L.length) : judN D L (i + 1) = (judN D L i && decide ((D (L.getD i [])).1 = 1)) := by rw [judN, take_succ_getD _ [] hi, List.all_append]; simp [judN]
theorem judF_succ (hi : i < L.length) : judF D L (i + 1) = (judF D L i || decide ((D (L.getD i [])).1 = 2)) := by rw [judF, take_succ_getD _ [] hi, List.any_append]; simp [judF]
theorem judA_succ (hi : i < L.length) : judA D L (i + 1) = (judA D L i || decide ((D (L.getD i [])).1 = 1)) := by rw [judA, take_succ_getD _ [] hi, List.any_append]; simp [judA]
theorem judE_at (hi : i < L.length) (h : ∀ j, j < i → (D (L.getD j [])).2 = 0) (h0 : ¬ (D (L.getD i [])).2 = 0) : judE D L = (D (L.getD i [])).2 := by
  have : L.find? (fun s => decide ((D s).2 ≠ 0)) = some (L.getD i []) := by
    rw [List.find?_eq_some_iff_append]
    refine ⟨by simpa using h0, L.take i, L.drop (i + 1), ?_, fun a ha => ?_⟩
    · rw [List.getD_eq_getElem?_getD, List.getElem?_eq_getElem hi, Option.getD_some, List.getElem_cons_drop, List.take_append_drop]
    · obtain ⟨j, hj, rfl⟩ := List.mem_iff_getElem.1 ha
      rw [List.length_take] at hj
      have := h j (by omega)
      rw [List.getD_eq_getElem?_getD, List.getElem?_eq_getElem (by omega), Option.getD_some] at this
      rw [List.getElem_take, this]; rfl
  unfold judE; rw [this]
theorem judE_none (h : ∀ j, j < L.length → (D (L.getD j [])).2 = 0) : judE D L = 0 := by
  have : L.find? (fun s => decide ((D s).2 ≠ 0)) = none := List.find?_eq_none.2 fun s hs => by
    obtain ⟨j, hj, rfl⟩ := List.mem_iff_getElem.1 hs
    have := h j hj
    rw [List.getD_eq_getElem?_getD, List.getElem?_eq_getElem hj, Option.getD_some] at this
    rw [this]; decide
  unfold judE; rw [this]
end
end BS
end
section
namespace Go.Proofs.YtoakoffdjeleoaaGreat
open Go.RowKit
def encVd (v : BS.Vd) : List Value := [.int .i64 v.every, .bool v.fr, .bool v.ag]
def zVd : BS.Vd := ⟨0, false, false⟩
def decB (b : BS.Bn) (f : BS.Fc) (s : List Int) : Int × Int := BS.decideP (BS.onlyB b ((idsB b).filter fun z_ => !(decide (z_ ∈ s)))) f
theorem decB_eq (b : BS.Bn) (f : BS.Fc) (s : List Int) : decB b f s = BS.decideP ⟨(BS.onlyB b ((idsB b).filter fun z_ => !(decide (z_ ∈ s)))).boxes, (BS.onlyB b ((idsB b).filter fun z_ => !(decide (z_ ∈ s)))).facts⟩ f := rfl
def jugR (b : BS.Bn) (f : BS.Fc) : BS.Vd × Int := if witR b = 0 then (if BS.judE (decB b f) (leaP b).1 = 0 then (BS.judV (decB b f) (leaP b).1, 0) else (zVd, BS.judE (decB b f) (leaP b).1)) else (zVd, witR b)
section
variable {b : BS.Bn} {f : BS.Fc}
theorem jug_bad {e : Int} (h : witR b = e) (h0 : e ≠ 0) : jugR b f = (zVd, e) := by unfold jugR; rw [if_neg (by rw [h]; exact h0), h]
theorem jug_err {e : Int} (h : witR b = 0) (he : BS.judE (decB b f) (leaP b).1 = e) (h0 : e ≠ 0) : jugR b f = (zVd, e) := by unfold jugR; rw [if_pos h, if_neg (by rw [he]; exact h0), he]
theorem jug_ok (h : witR b = 0) (he : BS.judE (decB b f) (leaP b).1 = 0) : jugR b f = (BS.judV (decB b f) (leaP b).1, 0) := by unfold jugR; rw [if_pos h, if_pos he]
end
end Go.Proofs.YtoakoffdjeleoaaGreat
end
section
set_option maxRecDepth 4000
set_option maxHeartbeats 4000000
namespace Go.Proofs.YtoakoffdjeleoaaGreat
open Go.RowKit Go.Shelf
attribute [local irreducible] BS.narrow BS.lookL BS.findE BS.findR BS.volMax BS.parts BS.checkP BS.solE BS.solR BS.solveR BS.furtherR BS.onlyP BS.decideP BS.formedB BS.checkB BS.subsetsL BS.onlyB sortI BS.minimalF BS.lightL decB witR leaP
theorem jug_exp {H : Gh} {Aw Aa A B : Option Addr} {cw ca c d : Nat} (W : List BS.Wi) (C : List BS.Ac) (l : List BS.Bx) (F : List BS.Fc) (hW : GRow H Aw cw encWi 3 W) (hC : GRow H Aa ca encAc 2 C) (hl : GRow H A c encBx 4 l) (hF : GRow H B d encFc 9 F) (f : BS.Fc) : Ct Tryz.prog 26 [.agg [.slice Aw W.length cw, .slice Aa C.length ca, .slice A l.length c, .slice B F.length d].toArray, .agg (encFc f).toArray] H fun _ v => v = .tuple [.agg (encVd (jugR (⟨W, C, ⟨l, F⟩⟩ : BS.Bn) f).1).toArray, .int .i64 (jugR (⟨W, C, ⟨l, F⟩⟩ : BS.Bn) f).2].toArray := by
 refine cd2_of Tryz.func26 rfl Tryz.ntmps26 rfl fun w0 hw => ?_;refine c_seq<|c_region ?_;refine lbx ([.slice Aw W.length cw, .slice Aa C.length ca, .slice A l.length c, .slice B F.length d]) (fun m1 hm2 => ?_);refine lbx (encFc f) (fun m3 hm4 => ?_);refine lal (fun m5 hm6 => ?_);refine lal (fun m7 hm8 => ?_);refine l_end<|x_next<|c_seq<|c_seq<|c_region ?_;refine lk 3 ([.slice Aw W.length cw, .slice Aa C.length ca, .slice A l.length c, .slice B F.length d]) ?_;refine lcl (checkB_cv W C l F hW hC hl hF) ?_;refine la ?_;refine l_end<|x_next<|c_seq<|c_region ?_;refine lm ?_;refine lneq ?_;refine l_end<|x_next ?_;refine c_if (by rfl) (fun h9 => ?_) (fun h9 => ?_)
 ·have h9' := h9;(try simp only [bps] at h9);refine c_seq<|c_region ?_;refine lbd (v := .agg (encVd ⟨0, false, false⟩).toArray) [] ?_ (fun _ => by kernel_rfl) (by simp [ev, eget, Nat.beq]);refine lm ?_;refine lst 1 (encVd ⟨0, false, false⟩) (encVd ⟨0, false, false⟩) ?_;refine lst 0 ([.int .i64 (BS.checkB (⟨W, C, ⟨l, F⟩⟩ : BS.Bn))]) ([.int .i64 (BS.checkB (⟨W, C, ⟨l, F⟩⟩ : BS.Bn))]) ?_;refine l_end<|x_next ?_;refine c_ret ?_;refine x_tr ?_;exact x_retd0 (vs := [.agg (encVd ⟨0, false, false⟩).toArray, .int .i64 (BS.checkB (⟨W, C, ⟨l, F⟩⟩ : BS.Bn))]) (.inl rfl) rfl ⟨rv_cell 1 (encVd ⟨0, false, false⟩), rv_cell1 0, trivial⟩ (by rw [jug_bad (wit_bad h9).1 h9]; rfl)
 ·have h9' := h9;(try simp only [bps] at h9);refine c_skip ?_;refine x_next<|c_seq<|c_region ?_;refine l_x (x_defer ?_);refine l_end ?_;have hc0 : BS.checkB (⟨W, C, ⟨l, F⟩⟩ : BS.Bn) = 0 := Decidable.not_not.1 h9;have hgb : BS.GoodB (⟨W, C, ⟨l, F⟩⟩ : BS.Bn) := BS.checkB_good hc0;refine x_next<|c_seq<|c_region ?_;refine lk 3 ([.slice Aw W.length cw, .slice Aa C.length ca, .slice A l.length c, .slice B F.length d]) ?_;refine l_x (x_callg (Rs := (fun H' v => ∃ (Ai : Option Addr) (ci gm : Nat) (kv : KV ByteArray) (ff : ByteArray → Bool), v = .agg [.slice Aw W.length cw, .slice Aa C.length ca, .slice A l.length c, .slice B F.length d, .slice Ai (BS.aIds C).length ci, .map (some gm)].toArray ∧ GRow H' Ai ci encI 1 (idsB (⟨W, C, ⟨l, F⟩⟩ : BS.Bn)) ∧ H' gm = some (mapObj mkS kv) ∧ MapIs kv (.bool false) Value.bool ff ∧ (∀ s ∈ BS.subsetsL (idsB (⟨W, C, ⟨l, F⟩⟩ : BS.Bn)), ff (keyB s) = agreesB (⟨W, C, ⟨l, F⟩⟩ : BS.Bn) s) ∧ (∀ s ∈ BS.subsetsL (idsB (⟨W, C, ⟨l, F⟩⟩ : BS.Bn)), ¬ limitB (⟨W, C, ⟨l, F⟩⟩ : BS.Bn) s))) (Pc := (fun ch => ch = panE 2 ∧ ∃ s ∈ BS.subsetsL (idsB (⟨W, C, ⟨l, F⟩⟩ : BS.Bn)), limitB (⟨W, C, ⟨l, F⟩⟩ : BS.Bn) s)) (vs := [.agg [.slice Aw W.length cw, .slice Aa C.length ca, .slice A l.length c, .slice B F.length d].toArray]) (dst := some 24) ?_ (fun H10 v11 le12 r13 => ?_) (fun ch_ hp_ => (by obtain ⟨rfl, hpx⟩ := hp_; (repeat first | refine x_bp ?_ | refine x_tp ?_); exact x_pand (vs := [.agg (encVd ⟨0, false, false⟩).toArray, .int .i64 2]) 0 (caught_pan _ _ _) (Gh.Le.refl _) rfl rfl ⟨rv_cell 1 (encVd ⟨0, false, false⟩), rv_cell1 0, trivial⟩ (by rw [jug_bad (wit_limit hc0 hpx).1 (by decide)]; rfl))) (hx := ⟨(by exact e1 rfl), trivial⟩))
  ·exact looked_cg W C l F hW hC hl hF hgb
  obtain ⟨A14, c15, gm16, kv17, ff18, rfl, hi19, hgm20, hkv21, hse22, hnl23⟩ := r13;show RK _ _ _ _ _ ((24, true, .agg [.slice Aw W.length cw, .slice Aa C.length ca, .slice A l.length c, .slice B F.length d, .slice A14 (BS.aIds C).length c15, .map (some gm16)].toArray) :: _) [(m7, .cells ([.int .i64 0]).toArray 34 (0, 0)), (m5, .cells (encVd ⟨0, false, false⟩).toArray 45 (0, 0)), (m3, .cells (encFc f).toArray 42 (0, 0)), (m1, .cells ([.slice Aw W.length cw, .slice Aa C.length ca, .slice A l.length c, .slice B F.length d]).toArray 29 (0, 0))] [];refine lal (fun m24 hm25 => ?_);refine lst 0 ([.slice Aw W.length cw, .slice Aa C.length ca, .slice A l.length c, .slice B F.length d, .slice A14 (BS.aIds C).length c15, .map (some gm16)]) ([.slice Aw W.length cw, .slice Aa C.length ca, .slice A l.length c, .slice B F.length d, .slice A14 (BS.aIds C).length c15, .map (some gm16)]) ?_;refine l_end ?_
  refine x_next<|c_seq<|c_region ?_;refine lk 0 ([.slice Aw W.length cw, .slice Aa C.length ca, .slice A l.length c, .slice B F.length d, .slice A14 (BS.aIds C).length c15, .map (some gm16)]) ?_;refine l_x (x_callg (Rs := (fun H' v => ∃ A1 c1 M, v = .tuple [.slice A1 M.length c1, .int .i64 (BS.lightL (fun s => BS.weightTo W s C) (BS.minimalF ((BS.subsetsL (idsB (⟨W, C, ⟨l, F⟩⟩ : BS.Bn))).filter fun s => ff18 (keyB ((idsB (⟨W, C, ⟨l, F⟩⟩ : BS.Bn)).filter fun z_ => !(decide (z_ ∈ s))))))).2].toArray ∧ GRow H' A1 c1 encS 1 M ∧ GSets H' encI 1 M ∧ (svs M = (BS.lightL (fun s => BS.weightTo W s C) (BS.minimalF ((BS.subsetsL (idsB (⟨W, C, ⟨l, F⟩⟩ : BS.Bn))).filter fun s => ff18 (keyB ((idsB (⟨W, C, ⟨l, F⟩⟩ : BS.Bn)).filter fun z_ => !(decide (z_ ∈ s))))))).1 ∧ ¬ ((BS.subsetsL (idsB (⟨W, C, ⟨l, F⟩⟩ : BS.Bn))).filter fun s => ff18 (keyB ((idsB (⟨W, C, ⟨l, F⟩⟩ : BS.Bn)).filter fun z_ => !(decide (z_ ∈ s))))) = []))) (Pc := (fun ch => ch = panE 9 ∧ ((BS.subsetsL (idsB (⟨W, C, ⟨l, F⟩⟩ : BS.Bn))).filter fun s => ff18 (keyB ((idsB (⟨W, C, ⟨l, F⟩⟩ : BS.Bn)).filter fun z_ => !(decide (z_ ∈ s))))) = [])) (vs := [.agg [.slice Aw W.length cw, .slice Aa C.length ca, .slice A l.length c, .slice B F.length d, .slice A14 (BS.aIds C).length c15, .map (some gm16)].toArray]) (dst := some 27) ?_ (fun H26 v27 le28 r29 => ?_) (fun ch_ hp_ => (by obtain ⟨rfl, hpx⟩ := hp_; (repeat first | refine x_bp ?_ | refine x_tp ?_); exact x_pand (vs := [.agg (encVd ⟨0, false, false⟩).toArray, .int .i64 9]) 1 (caught_pan _ _ _) le12 rfl rfl ⟨rv_cell 2 (encVd ⟨0, false, false⟩), rv_cell1 0, trivial⟩ (by rw [jug_bad (wit_clash hc0 (no_limits hnl23) (by rw [back_of hse22] at hpx; exact hpx)).1 (by decide)]; rfl))) (hx := ⟨(by exact e1 rfl), trivial⟩))
  ·exact least_cg W C l F (idsB (⟨W, C, ⟨l, F⟩⟩ : BS.Bn)) (hW.le le12) (hC.le le12) (hl.le le12) (hF.le le12) hi19 idsB_l hgm20 hkv21 (idsB_lt hgb) (Nat.le_trans (idsB_len hgb) (by decide)) (fun w hw => ((BS.validW_iff).1 (hgb.hw w hw)).2) (Nat.le_trans hgb.na (by decide))
  obtain ⟨A30, c31, M32, rfl, hf33, hg34, hm35, hne36⟩ := r29;show RK _ _ _ _ _ ((27, true, .tuple #[.slice A30 M32.length c31, .int .i64 (BS.lightL (fun s => BS.weightTo W s C) (BS.minimalF ((BS.subsetsL (idsB (⟨W, C, ⟨l, F⟩⟩ : BS.Bn))).filter fun s => ff18 (keyB ((idsB (⟨W, C, ⟨l, F⟩⟩ : BS.Bn)).filter fun z_ => !(decide (z_ ∈ s))))))).2]) :: _) [(m24, .cells ([.slice Aw W.length cw, .slice Aa C.length ca, .slice A l.length c, .slice B F.length d, .slice A14 (BS.aIds C).length c15, .map (some gm16)]).toArray 131 (0, 0)), (m7, .cells ([.int .i64 0]).toArray 34 (0, 0)), (m5, .cells (encVd ⟨0, false, false⟩).toArray 45 (0, 0)), (m3, .cells (encFc f).toArray 42 (0, 0)), (m1, .cells ([.slice Aw W.length cw, .slice Aa C.length ca, .slice A l.length c, .slice B F.length d]).toArray 29 (0, 0))] [];refine lm ?_;refine lext ?_;refine lext ?_;refine la ?_;refine la ?_;refine l_end ?_;have hwo := wit_ok hc0 (no_limits hnl23) (by rw [back_of hse22] at hne36; exact hne36)
  have hlm : svs M32 = (leaP (⟨W, C, ⟨l, F⟩⟩ : BS.Bn)).1 := by rw [hwo.2.2, hm35, back_of hse22]
  clear hm35 hne36;have hbl9 : M32.length ≤ 9223372036854775807 := Nat.le_trans hf33.1 hf33.2.1;have hl9 : M32.length = (svs M32).length := (List.length_map _).symm;refine x_next<|c_seq<|c_region ?_;refine la ?_;refine la ?_;refine l_end<|x_next<|c_seq<|c_region ?_;refine lal (fun m37 hm38 => ?_);refine l_end<|x_next<|c_seq<|c_seq<|c_region ?_;refine lm ?_;refine llen ?_;refine lm ?_;refine l_end<|x_next<|c_block ?_;refine c_loop (ι := Nat) (fun i => [(2, true, .pointer (some ⟨m1, 0, none⟩)), (3, true, .pointer (some ⟨m3, 0, none⟩)), (4, true, .pointer (some ⟨m5, 0, none⟩)), (5, true, .pointer (some ⟨m7, 0, none⟩)), (7, true, .pointer (some ⟨m24, 0, none⟩)), (10, true, .bool (BS.judY (decB (⟨W, C, ⟨l, F⟩⟩ : BS.Bn) f) (svs M32) i)), (11, true, .bool (BS.judN (decB (⟨W, C, ⟨l, F⟩⟩ : BS.Bn) f) (svs M32) i)), (12, true, .pointer (some ⟨m37, 0, none⟩)), (30, true, .slice A30 M32.length c31), (31, true, .int .i64 (M32.length : Int)), (32, true, .int .i64 ((i : Nat) : Int))]) (fun i => [(m37, .cells (encVd ⟨0, (BS.judF (decB (⟨W, C, ⟨l, F⟩⟩ : BS.Bn) f) (svs M32) i), (BS.judA (decB (⟨W, C, ⟨l, F⟩⟩ : BS.Bn) f) (svs M32) i)⟩).toArray 45 (0, 0)), (m24, .cells ([.slice Aw W.length cw, .slice Aa C.length ca, .slice A l.length c, .slice B F.length d, .slice A14 (BS.aIds C).length c15, .map (some gm16)]).toArray 131 (0, 0)), (m7, .cells ([.int .i64 0]).toArray 34 (0, 0)), (m5, .cells (encVd ⟨0, false, false⟩).toArray 45 (0, 0)), (m3, .cells (encFc f).toArray 42 (0, 0)), (m1, .cells ([.slice Aw W.length cw, .slice Aa C.length ca, .slice A l.length c, .slice B F.length d]).toArray 29 (0, 0))]) (fun i => []) (fun _ => H26) (fun i => i ≤ M32.length ∧ ∀ j, j < i → (decB (⟨W, C, ⟨l, F⟩⟩ : BS.Bn) f ((svs M32).getD j [])).2 = 0) (fun i => M32.length - i) 0 (⟨Nat.zero_le _, fun j h => by omega⟩) rfl (sub_cons rfl (sub_cons rfl (sub_cons rfl (sub_cons rfl (sub_cons rfl (sub_eq rfl (by first | rfl | (rw [BS.judY_succ (by rw [List.length_map]; omega), ← hdb])) (sub_eq rfl (by first | rfl | (rw [BS.judN_succ (by rw [List.length_map]; omega), ← hdb])) sA))))))) (rfl) (rfl) ?_
  rintro i hi39
  (try dsimp only);replace hi39 : i ≤ M32.length ∧ ∀ j, j < i → (decB (⟨W, C, ⟨l, F⟩⟩ : BS.Bn) f ((svs M32).getD j [])).2 = 0 := hi39;obtain ⟨hi1, hj0⟩ := hi39;refine c_seq<|c_region ?_;refine llss ?_;refine l_end<|x_next<|c_seq ?_;refine c_if (by rfl) (fun h40 => ?_) (fun h40 => ?_)
  ·have h40' := h40;(try simp only [bps] at h40);refine c_skip ?_;refine x_next<|c_seq<|c_block<|c_seq<|c_region ?_;refine lix hf33 zS i (fun p41 o42 g43 => ?_);refine lg 0 g43 ?_;refine la ?_;refine l_end<|x_next<|c_seq ?_;refine k_nop ?_;refine c_draw [(9999, m24, .cells ([.slice Aw W.length cw, .slice Aa C.length ca, .slice A l.length c, .slice B F.length d, .slice A14 (BS.aIds C).length c15, .map (some gm16)]).toArray 131 (0, 0)), (9999, m3, .cells (encFc f).toArray 42 (0, 0)), (9999, m1, .cells ([.slice Aw W.length cw, .slice Aa C.length ca, .slice A l.length c, .slice B F.length d]).toArray 29 (0, 0))] H26 ?_;refine a_l 0 rfl 2 (p_loadK 0 ([.slice Aw W.length cw, .slice Aa C.length ca, .slice A l.length c, .slice B F.length d]) .no (by exact e1 rfl)) (inM_at 1 (inM_at 4 (inM_at 5 inM_nil))) te0 ?_;refine a_l 1 rfl 0 (p_loadK 0 ([.slice Aw W.length cw, .slice Aa C.length ca, .slice A l.length c, .slice B F.length d, .slice A14 (BS.aIds C).length c15, .map (some gm16)]) .no (by exact e1 rfl)) (inM_at 1 (inM_at 4 (inM_at 5 inM_nil))) te0 ?_
   refine a_v 2 rfl [] (p_move .no (by exact e1 rfl)) (inM_at 1 (inM_at 4 (inM_at 5 inM_nil))) te0 ?_;refine a_l 5 rfl 1 (p_loadK 0 (encFc f) .no (by exact e1 rfl)) (inM_at 1 (inM_at 4 (inM_at 5 inM_nil))) te0 ?_;refine a_one 3 rfl (x_callw (T := 3) (k := 1) (enc := encI) (m := ((idsB (⟨W, C, ⟨l, F⟩⟩ : BS.Bn)).filter fun z_ => !(decide (z_ ∈ (M32.getD i zS).l))).length) (L := ((idsB (⟨W, C, ⟨l, F⟩⟩ : BS.Bn)).filter fun z_ => !(decide (z_ ∈ (M32.getD i zS).l)))) (F := fun A_ c_ => .slice A_ ((idsB (⟨W, C, ⟨l, F⟩⟩ : BS.Bn)).filter fun z_ => !(decide (z_ ∈ (M32.getD i zS).l))).length c_) (vs := [.agg [.slice Aw W.length cw, .slice Aa C.length ca, .slice A l.length c, .slice B F.length d, .slice A14 (BS.aIds C).length c15, .map (some gm16)].toArray, .slice (M32.getD i zS).A (M32.getD i zS).l.length (M32.getD i zS).c]) ?_ (fun A44 c45 => ?_) (hx := ⟨(by exact e1 rfl), (by exact e1 rfl), trivial⟩))
   ·exact rest_cw W C l F (idsB (⟨W, C, ⟨l, F⟩⟩ : BS.Bn)) (hW.le (Gh.Le.trans le12 le28)) (hC.le (Gh.Le.trans le12 le28)) (hl.le (Gh.Le.trans le12 le28)) (hF.le (Gh.Le.trans le12 le28)) (hi19.le le28) idsB_l (M32.getD i zS).l (gs_at hg34 (i) zS (by omega)) rfl (Nat.le_trans (idsB_len hgb) (by decide))
   refine k_frz 0 (fun H47 le48 gr49 => ?_);refine a_in (inM_at 1 (inM_at 4 (inM_at 5 inM_nil))) (te le48) ?_;have hc60 : Ct Tryz.prog 86 [.agg [.slice Aw W.length cw, .slice Aa C.length ca, .slice A l.length c, .slice B F.length d].toArray, .slice A44 ((idsB (⟨W, C, ⟨l, F⟩⟩ : BS.Bn)).filter fun z_ => !(decide (z_ ∈ (M32.getD i zS).l))).length c45] H47 _ := onlyB_ct W C l F (hW.le (Gh.Le.trans (Gh.Le.trans le12 le28) le48)) (hC.le (Gh.Le.trans (Gh.Le.trans le12 le28) le48)) (hl.le (Gh.Le.trans (Gh.Le.trans le12 le28) le48)) (hF.le (Gh.Le.trans (Gh.Le.trans le12 le28) le48)) ((idsB (⟨W, C, ⟨l, F⟩⟩ : BS.Bn)).filter fun z_ => !(decide (z_ ∈ (M32.getD i zS).l))) gr49 rfl hgb;refine a_one 4 rfl (x_call .no ?_ (fun _ => hc60) (k := fun H50 v51 le52 r53 => ?_))
   ·exact ⟨(by exact e1 rfl), (by exact e1 rfl), trivial⟩
   obtain ⟨A54, c55, A56, c57, rfl, hf58, hf59⟩ := r53 rfl;refine a_in (inM_at 1 (inM_at 4 (inM_at 5 inM_nil))) (te (Gh.Le.trans le48 le52)) ?_;have hc65 : Ct Tryz.prog 85 [.agg [.slice A54 (BS.onlyB (⟨W, C, ⟨l, F⟩⟩ : BS.Bn) ((idsB (⟨W, C, ⟨l, F⟩⟩ : BS.Bn)).filter fun z_ => !(decide (z_ ∈ (M32.getD i zS).l)))).boxes.length c55, .slice A56 (BS.onlyB (⟨W, C, ⟨l, F⟩⟩ : BS.Bn) ((idsB (⟨W, C, ⟨l, F⟩⟩ : BS.Bn)).filter fun z_ => !(decide (z_ ∈ (M32.getD i zS).l)))).facts.length c57].toArray, .agg (encFc f).toArray] H50 _ := decide_ct (BS.onlyB (⟨W, C, ⟨l, F⟩⟩ : BS.Bn) ((idsB (⟨W, C, ⟨l, F⟩⟩ : BS.Bn)).filter fun z_ => !(decide (z_ ∈ (M32.getD i zS).l)))).boxes (BS.onlyB (⟨W, C, ⟨l, F⟩⟩ : BS.Bn) ((idsB (⟨W, C, ⟨l, F⟩⟩ : BS.Bn)).filter fun z_ => !(decide (z_ ∈ (M32.getD i zS).l)))).facts hf58 hf59 f;refine a_one 6 rfl (x_call .no ?_ (fun _ => hc65) (k := fun H61 v62 le63 r64 => ?_))
   ·exact ⟨(by exact e1 rfl), (by exact e1 rfl), trivial⟩
   obtain rfl := r64 rfl;refine a_in (inM_at 1 (inM_at 4 (inM_at 5 inM_nil))) (te (Gh.Le.trans (Gh.Le.trans le48 le52) le63)) ?_;refine a_v 7 rfl [] (p_move .no (by exact e1 rfl)) (inM_at 1 (inM_at 4 (inM_at 5 inM_nil))) (te (Gh.Le.trans (Gh.Le.trans le48 le52) le63)) ?_;refine a_v 8 rfl [] (p_extract .no (by exact e1 rfl) (by rfl)) (inM_at 1 (inM_at 4 (inM_at 5 inM_nil))) (te (Gh.Le.trans (Gh.Le.trans le48 le52) le63)) ?_;refine a_v 9 rfl [] (p_extract .no (by exact e1 rfl) (by rfl)) (inM_at 1 (inM_at 4 (inM_at 5 inM_nil))) (te (Gh.Le.trans (Gh.Le.trans le48 le52) le63)) ?_;refine a_v 10 rfl [] (p_assign .no (by exact e1 rfl)) (inM_at 1 (inM_at 4 (inM_at 5 inM_nil))) (te (Gh.Le.trans (Gh.Le.trans le48 le52) le63)) ?_;refine a_v 11 rfl [] (p_assign .no (by exact e1 rfl)) (inM_at 1 (inM_at 4 (inM_at 5 inM_nil))) (te (Gh.Le.trans (Gh.Le.trans le48 le52) le63)) ?_;refine a_end ?_;have hdb : BS.decideP (⟨(BS.onlyB (⟨W, C, ⟨l, F⟩⟩ : BS.Bn) ((idsB (⟨W, C, ⟨l, F⟩⟩ : BS.Bn)).filter fun z_ => !(decide (z_ ∈ (M32.getD (i) zS).l)))).boxes, (BS.onlyB (⟨W, C, ⟨l, F⟩⟩ : BS.Bn) ((idsB (⟨W, C, ⟨l, F⟩⟩ : BS.Bn)).filter fun z_ => !(decide (z_ ∈ (M32.getD (i) zS).l)))).facts⟩ : BS.Pb) f = decB (⟨W, C, ⟨l, F⟩⟩ : BS.Bn) f ((svs M32).getD i []) := by rw [svl_getD]; exact (decB_eq _ _ _).symm
   refine x_nop ?_;refine x_next<|c_seq<|c_seq<|c_region ?_;refine lm ?_;refine lneq ?_;refine l_end<|x_next ?_;refine c_if (by rfl) (fun h66 => ?_) (fun h66 => ?_)
   ·have h66' := h66;(try simp only [bps] at h66);refine c_seq<|c_region ?_;refine lbd (v := .agg (encVd ⟨0, false, false⟩).toArray) [] ?_ (fun _ => by kernel_rfl) (by simp [ev, eget, Nat.beq]);refine lm ?_;refine lst 3 (encVd ⟨0, false, false⟩) (encVd ⟨0, false, false⟩) ?_;refine lst 2 ([.int .i64 (BS.decideP (⟨(BS.onlyB (⟨W, C, ⟨l, F⟩⟩ : BS.Bn) ((idsB (⟨W, C, ⟨l, F⟩⟩ : BS.Bn)).filter fun z_ => !(decide (z_ ∈ (M32.getD i zS).l)))).boxes, (BS.onlyB (⟨W, C, ⟨l, F⟩⟩ : BS.Bn) ((idsB (⟨W, C, ⟨l, F⟩⟩ : BS.Bn)).filter fun z_ => !(decide (z_ ∈ (M32.getD i zS).l)))).facts⟩ : BS.Pb) f).2]) ([.int .i64 (BS.decideP (⟨(BS.onlyB (⟨W, C, ⟨l, F⟩⟩ : BS.Bn) ((idsB (⟨W, C, ⟨l, F⟩⟩ : BS.Bn)).filter fun z_ => !(decide (z_ ∈ (M32.getD i zS).l)))).boxes, (BS.onlyB (⟨W, C, ⟨l, F⟩⟩ : BS.Bn) ((idsB (⟨W, C, ⟨l, F⟩⟩ : BS.Bn)).filter fun z_ => !(decide (z_ ∈ (M32.getD i zS).l)))).facts⟩ : BS.Pb) f).2]) ?_;refine l_end ?_
    refine x_next ?_;refine c_ret ?_;refine x_tr ?_;refine x_br ?_;refine x_tr ?_;refine x_tr ?_;refine x_br ?_;refine x_tr ?_;exact x_retd (vs := [.agg (encVd ⟨0, false, false⟩).toArray, .int .i64 (BS.decideP (⟨(BS.onlyB (⟨W, C, ⟨l, F⟩⟩ : BS.Bn) ((idsB (⟨W, C, ⟨l, F⟩⟩ : BS.Bn)).filter fun z_ => !(decide (z_ ∈ (M32.getD i zS).l)))).boxes, (BS.onlyB (⟨W, C, ⟨l, F⟩⟩ : BS.Bn) ((idsB (⟨W, C, ⟨l, F⟩⟩ : BS.Bn)).filter fun z_ => !(decide (z_ ∈ (M32.getD i zS).l)))).facts⟩ : BS.Pb) f).2]) 2 (.inl rfl) (caught_ret _ _) (Gh.Le.trans (Gh.Le.trans (Gh.Le.trans (Gh.Le.trans le12 le28) le48) le52) le63) rfl rfl ⟨rv_cell 3 (encVd ⟨0, false, false⟩), rv_cell1 0, trivial⟩ (by have e9 : BS.judE (decB (⟨W, C, ⟨l, F⟩⟩ : BS.Bn) f) (leaP (⟨W, C, ⟨l, F⟩⟩ : BS.Bn)).1 = ((decB (⟨W, C, ⟨l, F⟩⟩ : BS.Bn) f) ((svs M32).getD i [])).2 := (by rw [← hlm]; exact BS.judE_at (by omega) hj0 (by rw [← hdb]; exact h66)); rw [← hdb] at e9; rw [jug_err hwo.1 e9 h66]; rfl)
   ·have h66' := h66;(try simp only [bps] at h66);refine c_skip ?_;refine x_next<|c_seq<|c_region ?_;refine lm ?_;refine lm ?_;refine l_v (p_move (by exact .yes rfl rfl) (by exact e1 rfl)) ?_;refine l_v (p_bin (by exact .yes rfl rfl) (by exact e2 rfl) (by exact e1 rfl) (fun _ => r_eql _ _ _ _)) ?_;refine l_v (p_and (by rfl) (by rfl)) ?_;refine lm ?_;refine lm ?_;refine l_v (p_move (by exact .yes rfl rfl) (by exact e1 rfl)) ?_;refine l_v (p_bin (by exact .yes rfl rfl) (by exact e2 rfl) (by exact e1 rfl) (fun _ => r_eql _ _ _ _)) ?_;refine l_v (p_and (by rfl) (by rfl)) ?_;refine la ?_;refine la ?_;refine l_end<|x_next<|c_region ?_;refine lf ?_;refine ll 0 ?_;refine lm ?_;refine l_v (p_move (by exact .not rfl rfl) (by exact e1 rfl)) ?_;refine l_v (p_bin (by exact .not rfl rfl) (by exact e2 rfl) (by exact e1 rfl) (fun _ => r_eql _ _ _ _)) ?_;refine l_v (p_or (by rfl) (by rfl)) ?_;refine lf ?_
    refine ll 0 ?_;refine lm ?_;refine l_v (p_move (by exact .not rfl rfl) (by exact e1 rfl)) ?_;refine l_v (p_bin (by exact .not rfl rfl) (by exact e2 rfl) (by exact e1 rfl) (fun _ => r_eql _ _ _ _)) ?_;refine l_v (p_or (by rfl) (by rfl)) ?_;refine lf ?_;refine lst 0 ([.bool ((BS.judF (decB (⟨W, C, ⟨l, F⟩⟩ : BS.Bn) f) (svs M32) i) || decide ((BS.decideP (⟨(BS.onlyB (⟨W, C, ⟨l, F⟩⟩ : BS.Bn) ((idsB (⟨W, C, ⟨l, F⟩⟩ : BS.Bn)).filter fun z_ => !(decide (z_ ∈ (M32.getD i zS).l)))).boxes, (BS.onlyB (⟨W, C, ⟨l, F⟩⟩ : BS.Bn) ((idsB (⟨W, C, ⟨l, F⟩⟩ : BS.Bn)).filter fun z_ => !(decide (z_ ∈ (M32.getD i zS).l)))).facts⟩ : BS.Pb) f).1 = 2))]) (encVd ⟨0, ((BS.judF (decB (⟨W, C, ⟨l, F⟩⟩ : BS.Bn) f) (svs M32) i) || decide ((BS.decideP (⟨(BS.onlyB (⟨W, C, ⟨l, F⟩⟩ : BS.Bn) ((idsB (⟨W, C, ⟨l, F⟩⟩ : BS.Bn)).filter fun z_ => !(decide (z_ ∈ (M32.getD i zS).l)))).boxes, (BS.onlyB (⟨W, C, ⟨l, F⟩⟩ : BS.Bn) ((idsB (⟨W, C, ⟨l, F⟩⟩ : BS.Bn)).filter fun z_ => !(decide (z_ ∈ (M32.getD i zS).l)))).facts⟩ : BS.Pb) f).1 = 2)), (BS.judA (decB (⟨W, C, ⟨l, F⟩⟩ : BS.Bn) f) (svs M32) i)⟩) ?_
    refine lf ?_;refine lst 0 ([.bool ((BS.judA (decB (⟨W, C, ⟨l, F⟩⟩ : BS.Bn) f) (svs M32) i) || decide ((BS.decideP (⟨(BS.onlyB (⟨W, C, ⟨l, F⟩⟩ : BS.Bn) ((idsB (⟨W, C, ⟨l, F⟩⟩ : BS.Bn)).filter fun z_ => !(decide (z_ ∈ (M32.getD i zS).l)))).boxes, (BS.onlyB (⟨W, C, ⟨l, F⟩⟩ : BS.Bn) ((idsB (⟨W, C, ⟨l, F⟩⟩ : BS.Bn)).filter fun z_ => !(decide (z_ ∈ (M32.getD i zS).l)))).facts⟩ : BS.Pb) f).1 = 1))]) (encVd ⟨0, ((BS.judF (decB (⟨W, C, ⟨l, F⟩⟩ : BS.Bn) f) (svs M32) i) || decide ((BS.decideP (⟨(BS.onlyB (⟨W, C, ⟨l, F⟩⟩ : BS.Bn) ((idsB (⟨W, C, ⟨l, F⟩⟩ : BS.Bn)).filter fun z_ => !(decide (z_ ∈ (M32.getD i zS).l)))).boxes, (BS.onlyB (⟨W, C, ⟨l, F⟩⟩ : BS.Bn) ((idsB (⟨W, C, ⟨l, F⟩⟩ : BS.Bn)).filter fun z_ => !(decide (z_ ∈ (M32.getD i zS).l)))).facts⟩ : BS.Pb) f).1 = 2)), ((BS.judA (decB (⟨W, C, ⟨l, F⟩⟩ : BS.Bn) f) (svs M32) i) || decide ((BS.decideP (⟨(BS.onlyB (⟨W, C, ⟨l, F⟩⟩ : BS.Bn) ((idsB (⟨W, C, ⟨l, F⟩⟩ : BS.Bn)).filter fun z_ => !(decide (z_ ∈ (M32.getD i zS).l)))).boxes, (BS.onlyB (⟨W, C, ⟨l, F⟩⟩ : BS.Bn) ((idsB (⟨W, C, ⟨l, F⟩⟩ : BS.Bn)).filter fun z_ => !(decide (z_ ∈ (M32.getD i zS).l)))).facts⟩ : BS.Pb) f).1 = 1))⟩) ?_
    refine l_end ?_;refine x_bn ?_;refine x_next<|c_region ?_;refine ladd ?_;refine lm ?_;refine l_end ?_;refine k_less (Gh.Le.trans (Gh.Le.trans le48 le52) le63) (Gh.Le.trans le12 le28) ?_;exact x_round (i + 1) (⟨by omega, fun j hj => by by_cases e : j < i; exact hj0 j e; obtain rfl : j = i := (by omega); rw [← hdb]; exact Decidable.not_not.1 h66⟩) (by first | omega | (dsimp only; omega)) rfl (sub_cons rfl (sub_cons rfl (sub_cons rfl (sub_cons rfl (sub_cons rfl (sub_eq rfl (by first | rfl | (rw [BS.judY_succ (by rw [List.length_map]; omega), ← hdb])) (sub_eq rfl (by first | rfl | (rw [BS.judN_succ (by rw [List.length_map]; omega), ← hdb])) (sub_cons rfl (sub_cons rfl (sub_cons rfl (sub_int rfl (by first | rfl | omega | (simp; done)) (sub_nil _)))))))))))) (by rw [BS.judF_succ (by rw [List.length_map]; omega), BS.judA_succ (by rw [List.length_map]; omega), ← hdb]; first | done | rfl) (rfl)
  ·have h40' := h40;(try simp only [bps] at h40);refine c_exit ?_;refine x_te ?_;refine x_te ?_;refine x_be ?_;refine x_next<|c_seq<|c_region ?_;refine lf ?_;refine lst 0 ([.int .i64 3]) (encVd ⟨3, (BS.judF (decB (⟨W, C, ⟨l, F⟩⟩ : BS.Bn) f) (svs M32) i), (BS.judA (decB (⟨W, C, ⟨l, F⟩⟩ : BS.Bn) f) (svs M32) i)⟩) ?_;refine l_end<|x_next<|c_seq<|c_seq<|c_region ?_;refine lm ?_;refine l_end<|x_next ?_;refine c_if (by rfl) (fun h67 => ?_) (fun h67 => ?_)
   ·have h67' := h67;(try simp only [bps] at h67);refine c_region ?_;refine lf ?_;refine lst 0 ([.int .i64 2]) (encVd ⟨2, (BS.judF (decB (⟨W, C, ⟨l, F⟩⟩ : BS.Bn) f) (svs M32) i), (BS.judA (decB (⟨W, C, ⟨l, F⟩⟩ : BS.Bn) f) (svs M32) i)⟩) ?_;refine l_end<|x_next<|c_seq<|c_seq<|c_region ?_;refine lm ?_;refine l_end<|x_next ?_;refine c_if (by rfl) (fun h68 => ?_) (fun h68 => ?_)
    ·have h68' := h68;(try simp only [bps] at h68);refine c_region ?_;refine lf ?_;refine lst 0 ([.int .i64 1]) (encVd ⟨1, (BS.judF (decB (⟨W, C, ⟨l, F⟩⟩ : BS.Bn) f) (svs M32) i), (BS.judA (decB (⟨W, C, ⟨l, F⟩⟩ : BS.Bn) f) (svs M32) i)⟩) ?_;refine l_end<|x_next<|c_seq<|c_region ?_;refine lk 0 (encVd ⟨1, (BS.judF (decB (⟨W, C, ⟨l, F⟩⟩ : BS.Bn) f) (svs M32) i), (BS.judA (decB (⟨W, C, ⟨l, F⟩⟩ : BS.Bn) f) (svs M32) i)⟩) ?_;refine lst 3 (encVd ⟨1, (BS.judF (decB (⟨W, C, ⟨l, F⟩⟩ : BS.Bn) f) (svs M32) i), (BS.judA (decB (⟨W, C, ⟨l, F⟩⟩ : BS.Bn) f) (svs M32) i)⟩) (encVd ⟨1, (BS.judF (decB (⟨W, C, ⟨l, F⟩⟩ : BS.Bn) f) (svs M32) i), (BS.judA (decB (⟨W, C, ⟨l, F⟩⟩ : BS.Bn) f) (svs M32) i)⟩) ?_;refine lst 2 ([.int .i64 0]) ([.int .i64 0]) ?_;refine l_end<|x_next ?_;refine c_ret ?_;exact x_retd (vs := [.agg (encVd ⟨1, (BS.judF (decB (⟨W, C, ⟨l, F⟩⟩ : BS.Bn) f) (svs M32) i), (BS.judA (decB (⟨W, C, ⟨l, F⟩⟩ : BS.Bn) f) (svs M32) i)⟩).toArray, .int .i64 0]) 2 (.inl rfl) (caught_ret _ _) (Gh.Le.trans le12 le28) rfl rfl ⟨rv_cell 3 (encVd ⟨1, (BS.judF (decB (⟨W, C, ⟨l, F⟩⟩ : BS.Bn) f) (svs M32) i), (BS.judA (decB (⟨W, C, ⟨l, F⟩⟩ : BS.Bn) f) (svs M32) i)⟩), rv_cell1 0, trivial⟩ (by obtain rfl : i = M32.length := (by omega); have e9 : BS.judE (decB (⟨W, C, ⟨l, F⟩⟩ : BS.Bn) f) (leaP (⟨W, C, ⟨l, F⟩⟩ : BS.Bn)).1 = 0 := (by rw [← hlm]; exact BS.judE_none (fun j hj => hj0 j (by omega))); rw [jug_ok hwo.1 e9, ← hlm]; unfold BS.judV; rw [← hl9]; rw [if_pos h68']; rfl)
    ·have h68' := h68;(try simp only [bps] at h68);refine c_skip ?_;refine x_next<|c_seq<|c_region ?_;refine lk 0 (encVd ⟨2, (BS.judF (decB (⟨W, C, ⟨l, F⟩⟩ : BS.Bn) f) (svs M32) i), (BS.judA (decB (⟨W, C, ⟨l, F⟩⟩ : BS.Bn) f) (svs M32) i)⟩) ?_;refine lst 3 (encVd ⟨2, (BS.judF (decB (⟨W, C, ⟨l, F⟩⟩ : BS.Bn) f) (svs M32) i), (BS.judA (decB (⟨W, C, ⟨l, F⟩⟩ : BS.Bn) f) (svs M32) i)⟩) (encVd ⟨2, (BS.judF (decB (⟨W, C, ⟨l, F⟩⟩ : BS.Bn) f) (svs M32) i), (BS.judA (decB (⟨W, C, ⟨l, F⟩⟩ : BS.Bn) f) (svs M32) i)⟩) ?_;refine lst 2 ([.int .i64 0]) ([.int .i64 0]) ?_;refine l_end<|x_next ?_;refine c_ret ?_;exact x_retd (vs := [.agg (encVd ⟨2, (BS.judF (decB (⟨W, C, ⟨l, F⟩⟩ : BS.Bn) f) (svs M32) i), (BS.judA (decB (⟨W, C, ⟨l, F⟩⟩ : BS.Bn) f) (svs M32) i)⟩).toArray, .int .i64 0]) 2 (.inl rfl) (caught_ret _ _) (Gh.Le.trans le12 le28) rfl rfl ⟨rv_cell 3 (encVd ⟨2, (BS.judF (decB (⟨W, C, ⟨l, F⟩⟩ : BS.Bn) f) (svs M32) i), (BS.judA (decB (⟨W, C, ⟨l, F⟩⟩ : BS.Bn) f) (svs M32) i)⟩), rv_cell1 0, trivial⟩ (by obtain rfl : i = M32.length := (by omega); have e9 : BS.judE (decB (⟨W, C, ⟨l, F⟩⟩ : BS.Bn) f) (leaP (⟨W, C, ⟨l, F⟩⟩ : BS.Bn)).1 = 0 := (by rw [← hlm]; exact BS.judE_none (fun j hj => hj0 j (by omega))); rw [jug_ok hwo.1 e9, ← hlm]; unfold BS.judV; rw [← hl9]; rw [if_neg (by rw [h68']; decide), if_pos h67']; rfl)
   ·have h67' := h67;(try simp only [bps] at h67);refine c_skip ?_;refine x_next<|c_seq<|c_seq<|c_region ?_;refine lm ?_;refine l_end<|x_next ?_;refine c_if (by rfl) (fun h69 => ?_) (fun h69 => ?_)
    ·have h69' := h69;(try simp only [bps] at h69);refine c_region ?_;refine lf ?_;refine lst 0 ([.int .i64 1]) (encVd ⟨1, (BS.judF (decB (⟨W, C, ⟨l, F⟩⟩ : BS.Bn) f) (svs M32) i), (BS.judA (decB (⟨W, C, ⟨l, F⟩⟩ : BS.Bn) f) (svs M32) i)⟩) ?_;refine l_end<|x_next<|c_seq<|c_region ?_;refine lk 0 (encVd ⟨1, (BS.judF (decB (⟨W, C, ⟨l, F⟩⟩ : BS.Bn) f) (svs M32) i), (BS.judA (decB (⟨W, C, ⟨l, F⟩⟩ : BS.Bn) f) (svs M32) i)⟩) ?_;refine lst 3 (encVd ⟨1, (BS.judF (decB (⟨W, C, ⟨l, F⟩⟩ : BS.Bn) f) (svs M32) i), (BS.judA (decB (⟨W, C, ⟨l, F⟩⟩ : BS.Bn) f) (svs M32) i)⟩) (encVd ⟨1, (BS.judF (decB (⟨W, C, ⟨l, F⟩⟩ : BS.Bn) f) (svs M32) i), (BS.judA (decB (⟨W, C, ⟨l, F⟩⟩ : BS.Bn) f) (svs M32) i)⟩) ?_;refine lst 2 ([.int .i64 0]) ([.int .i64 0]) ?_;refine l_end<|x_next ?_;refine c_ret ?_;exact x_retd (vs := [.agg (encVd ⟨1, (BS.judF (decB (⟨W, C, ⟨l, F⟩⟩ : BS.Bn) f) (svs M32) i), (BS.judA (decB (⟨W, C, ⟨l, F⟩⟩ : BS.Bn) f) (svs M32) i)⟩).toArray, .int .i64 0]) 2 (.inl rfl) (caught_ret _ _) (Gh.Le.trans le12 le28) rfl rfl ⟨rv_cell 3 (encVd ⟨1, (BS.judF (decB (⟨W, C, ⟨l, F⟩⟩ : BS.Bn) f) (svs M32) i), (BS.judA (decB (⟨W, C, ⟨l, F⟩⟩ : BS.Bn) f) (svs M32) i)⟩), rv_cell1 0, trivial⟩ (by obtain rfl : i = M32.length := (by omega); have e9 : BS.judE (decB (⟨W, C, ⟨l, F⟩⟩ : BS.Bn) f) (leaP (⟨W, C, ⟨l, F⟩⟩ : BS.Bn)).1 = 0 := (by rw [← hlm]; exact BS.judE_none (fun j hj => hj0 j (by omega))); rw [jug_ok hwo.1 e9, ← hlm]; unfold BS.judV; rw [← hl9]; rw [if_pos h69']; rfl)
    ·have h69' := h69;(try simp only [bps] at h69);refine c_skip ?_;refine x_next<|c_seq<|c_region ?_;refine lk 0 (encVd ⟨3, (BS.judF (decB (⟨W, C, ⟨l, F⟩⟩ : BS.Bn) f) (svs M32) i), (BS.judA (decB (⟨W, C, ⟨l, F⟩⟩ : BS.Bn) f) (svs M32) i)⟩) ?_;refine lst 3 (encVd ⟨3, (BS.judF (decB (⟨W, C, ⟨l, F⟩⟩ : BS.Bn) f) (svs M32) i), (BS.judA (decB (⟨W, C, ⟨l, F⟩⟩ : BS.Bn) f) (svs M32) i)⟩) (encVd ⟨3, (BS.judF (decB (⟨W, C, ⟨l, F⟩⟩ : BS.Bn) f) (svs M32) i), (BS.judA (decB (⟨W, C, ⟨l, F⟩⟩ : BS.Bn) f) (svs M32) i)⟩) ?_;refine lst 2 ([.int .i64 0]) ([.int .i64 0]) ?_;refine l_end<|x_next ?_;refine c_ret ?_;exact x_retd (vs := [.agg (encVd ⟨3, (BS.judF (decB (⟨W, C, ⟨l, F⟩⟩ : BS.Bn) f) (svs M32) i), (BS.judA (decB (⟨W, C, ⟨l, F⟩⟩ : BS.Bn) f) (svs M32) i)⟩).toArray, .int .i64 0]) 2 (.inl rfl) (caught_ret _ _) (Gh.Le.trans le12 le28) rfl rfl ⟨rv_cell 3 (encVd ⟨3, (BS.judF (decB (⟨W, C, ⟨l, F⟩⟩ : BS.Bn) f) (svs M32) i), (BS.judA (decB (⟨W, C, ⟨l, F⟩⟩ : BS.Bn) f) (svs M32) i)⟩), rv_cell1 0, trivial⟩ (by obtain rfl : i = M32.length := (by omega); have e9 : BS.judE (decB (⟨W, C, ⟨l, F⟩⟩ : BS.Bn) f) (leaP (⟨W, C, ⟨l, F⟩⟩ : BS.Bn)).1 = 0 := (by rw [← hlm]; exact BS.judE_none (fun j hj => hj0 j (by omega))); rw [jug_ok hwo.1 e9, ← hlm]; unfold BS.judV; rw [← hl9]; rw [if_neg (by rw [h69']; decide), if_neg (by rw [h67']; decide)]; rfl)
end Go.Proofs.YtoakoffdjeleoaaGreat
end
section
namespace Go.Proofs
open Go.Shelf
def Tryz.laysNm220_ren : Go.Shelf.Ren := ⟨fun | 20 => 171 | n => n, fun | 22 => 51 | 3 => 3 | 4 => 4 | 0 => 0 | n => n, fun | n => n⟩
theorem Tryz.laysNm220 : Go.Proofs.Lays2.n20 Tryz.prog Tryz.laysNm220_ren := {
  mixed := by kernel_rfl
  f20 := Tryz.func171.trans (congrArg some (by kernel_rfl))
  t0 := Tryz.underlying0
  a0 := Tryz.isAgg0
  z0 := Tryz.sizeOf0
  v0 := Tryz.zeroValue0
  t3 := Tryz.underlying3
  a3 := Tryz.isAgg3
  z3 := Tryz.sizeOf3
  v3 := Tryz.zeroValue3
  t4 := Tryz.underlying4
  a4 := Tryz.isAgg4
  z4 := Tryz.sizeOf4
  v4 := Tryz.zeroValue4
  t22 := Tryz.underlying51
  a22 := Tryz.isAgg51
  z22 := Tryz.sizeOf51
  v22 := Tryz.zeroValue51
  i3 := by kernel_rfl }
open Go.RowKit Go.Lib Go.Sort in
theorem Tryz.slices_Compact_int (blk off cap : Nat) (zs : List Int) (w : World) (hH : Holds (Value.int .i64) w blk off zs.toArray) (hsz : zs.length ≤ 9223372036854775807) (hcap : zs.length ≤ cap) :
    Calls Tryz.prog 171 #[.slice (some ⟨blk, off, none⟩) zs.length cap] w fun e w' => e = .returned (.slice (some ⟨blk, off, none⟩) (Lib.compact zs).length cap) ∧ ∃ q, w' = putRow (Value.int .i64) (Sort.ahead w q) blk off (Lib.compact zs ++ List.replicate (zs.length - (Lib.compact zs).length) 0).toArray := Any.slices_Compact_int Tryz.laysNm220 blk off cap zs w hH hsz hcap
open Go.RowKit Go.Lib Go.Sort in
theorem Tryz.slices_Compact_int_empty (a : Option Addr) (cap : Nat) (w : World) :
    Calls Tryz.prog 171 #[.slice a 0 cap] w fun e w' => e = .returned (.slice a 0 cap) ∧ w' = w := Any.slices_Compact_int_empty Tryz.laysNm220 a cap w
def Tryz.laysGrow_ren : Go.Shelf.Ren := ⟨fun | 4 => 212 | n => n, fun | 22 => 51 | 25 => 3 | 3 => 3 | 4 => 4 | 9 => 9 | 20 => 20 | 0 => 0 | n => n, fun | n => n⟩
theorem Tryz.laysGrow : Go.Proofs.Lays8.n4 Tryz.prog Tryz.laysGrow_ren := {
  mixed := by kernel_rfl
  f4 := ⟨Tryz.f212.name, by decide, Tryz.func212.trans (congrArg some (by kernel_rfl))⟩
  t0 := Tryz.underlying0
  a0 := Tryz.isAgg0
  z0 := Tryz.sizeOf0
  v0 := Tryz.zeroValue0
  t3 := Tryz.underlying3
  a3 := Tryz.isAgg3
  z3 := Tryz.sizeOf3
  v3 := Tryz.zeroValue3
  t4 := Tryz.underlying4
  a4 := Tryz.isAgg4
  z4 := Tryz.sizeOf4
  v4 := Tryz.zeroValue4
  t9 := Tryz.underlying9
  a9 := Tryz.isAgg9
  z9 := Tryz.sizeOf9
  v9 := Tryz.zeroValue9
  t20 := Tryz.underlying20
  a20 := Tryz.isAgg20
  z20 := Tryz.sizeOf20
  v20 := Tryz.zeroValue20
  t22 := Tryz.underlying51
  a22 := Tryz.isAgg51
  z22 := Tryz.sizeOf51
  v22 := Tryz.zeroValue51 }
end Go.Proofs
end
section
namespace BS
abbrev srt (l : List Int) : List Int := l.mergeSort fun x y => decide (x ≤ y)
theorem mem_srt {l : List Int} {x : Int} : x ∈ srt l ↔ x ∈ l := List.mem_mergeSort
theorem srt_length (l : List Int) : (srt l).length = l.length := List.length_mergeSort l
theorem srt_set {l : List Int} (h : l.Nodup) : IsSet (srt l) := by
  have h1 : (srt l).Pairwise fun x y => decide (x ≤ y) = true := List.pairwise_mergeSort (fun a b c h1 h2 => by simp only [decide_eq_true_eq] at *; omega) (fun a b => by simp only [Bool.or_eq_true, decide_eq_true_eq]; omega) l
  have h2 : (srt l).Nodup := (List.mergeSort_perm l _).nodup_iff.2 h
  exact List.Pairwise.imp₂ (fun {a b} h1 h2 => by have h3 := of_decide_eq_true h1; have h4 : a ≠ b := h2; omega) h1 h2
def openB (s l : List Int) : Bool := !(l.any fun n => s.contains n)
theorem openB_iff {s l : List Int} : openB s l = true ↔ ∀ n ∈ l, n ∉ s := by simp [openB]
theorem not_open {s l : List Int} : openB s l = false ↔ ∃ n, n ∈ l ∧ n ∈ s := by simp [openB]
def growN (F : List (List Int)) : Nat → List Int → List (List Int)
  | 0, s => [s]
  | n + 1, s => match F.find? (openB s) with
    | none => [s]
    | some l => l.flatMap fun x => growN F n (srt (s ++ [x]))
theorem growN_none {F : List (List Int)} {n : Nat} {s : List Int} (h : ∀ l ∈ F, openB s l = false) : growN F n s = [s] := by
  cases n with
  | zero => rfl
  | succ n => unfold growN; rw [List.find?_eq_none.2 (fun l hl => by rw [h l hl]; decide)]
theorem growN_some {F : List (List Int)} {n : Nat} {s l : List Int} (h : F.find? (openB s) = some l) : growN F (n + 1) s = l.flatMap fun x => growN F n (srt (s ++ [x])) := by
  conv => lhs; unfold growN
  rw [h]
theorem find_open {F : List (List Int)} {s : List Int} {i : Nat} (hi : i < F.length) (h0 : ∀ j, j < i → openB s (F.getD j []) = false) (h1 : openB s (F.getD i []) = true) : F.find? (openB s) = some (F.getD i []) := by
  rw [List.find?_eq_some_iff_append]
  refine ⟨h1, F.take i, F.drop (i + 1), ?_, fun a ha => ?_⟩
  · rw [List.getD_eq_getElem?_getD, List.getElem?_eq_getElem hi, Option.getD_some, List.getElem_cons_drop, List.take_append_drop]
  · obtain ⟨j, hj, rfl⟩ := List.mem_iff_getElem.1 ha
    rw [List.length_take] at hj
    have := h0 j (by omega)
    rw [List.getD_eq_getElem?_getD, List.getElem?_eq_getElem (by omega), Option.getD_some] at this
    rw [List.getElem_take, this]; rfl
def openN (F : List (List Int)) (s : List Int) : Nat := F.countP (openB s)
theorem openN_less {F : List (List Int)} {s l : List Int} {x : Int} (hl : l ∈ F) (ho : openB s l = true) (hx : x ∈ l) : openN F (srt (s ++ [x])) < openN F s := by
  have mono : ∀ k, openB (srt (s ++ [x])) k = true → openB s k = true := fun k hk => by
    rw [openB_iff] at *
    exact fun n hn hs => hk n hn (mem_srt.2 (List.mem_append_left _ hs))
  have hc : openB (srt (s ++ [x])) l = false := not_open.2 ⟨x, hx, mem_srt.2 (by simp)⟩
  obtain ⟨A, B, rfl⟩ := List.append_of_mem hl
  simp only [openN, List.countP_append, List.countP_cons, hc, ho]
  have h1 := List.countP_mono_left (l := A) (fun k _ => mono k)
  have h2 := List.countP_mono_left (l := B) (fun k _ => mono k)
  simp only [Bool.false_eq_true, if_false, if_true]
  omega
theorem add_nodup {s : List Int} {x : Int} (hs : IsSet s) (hx : x ∉ s) : (s ++ [x]).Nodup := by
  rw [List.nodup_append]
  exact ⟨hs.nodup, by simp, fun a ha b hb => by rw [List.mem_singleton.1 hb]; exact fun e => hx (e ▸ ha)⟩
theorem open_zero {F : List (List Int)} {s : List Int} (h : openN F s = 0) : ∀ l ∈ F, openB s l = false := fun l hl => by
  have := List.countP_eq_zero.1 h l hl
  simpa using this
theorem hits_of_none {F : List (List Int)} {s : List Int} (h : ∀ l ∈ F, openB s l = false) : Hits s F := fun l hl => not_open.1 (h l hl)
theorem growN_spec {F : List (List Int)} : ∀ n {s : List Int}, IsSet s → openN F s ≤ n → (∀ t ∈ growN F n s, IsSet t ∧ Hits t F) ∧ ∀ t, IsSet t → Hits t F → Part s t → ∃ r ∈ growN F n s, Part r t := by
  intro n
  induction n with
  | zero =>
    intro s hs hn
    have h := open_zero (Nat.le_zero.1 hn)
    refine ⟨fun t ht => ?_, fun t _ _ hp => ⟨s, by simp [growN], hp⟩⟩
    rw [List.mem_singleton.1 ht]
    exact ⟨hs, hits_of_none h⟩
  | succ n ih =>
    intro s hs hn
    cases hf : F.find? (openB s) with
    | none =>
      have h : ∀ l ∈ F, openB s l = false := fun l hl => by have := List.find?_eq_none.1 hf l hl; simpa using this
      rw [growN_none h]
      refine ⟨fun t ht => ?_, fun t _ _ hp => ⟨s, by simp, hp⟩⟩
      rw [List.mem_singleton.1 ht]
      exact ⟨hs, hits_of_none h⟩
    | some l =>
      have hl := List.mem_of_find?_eq_some hf
      have ho := List.find?_some hf
      have ho' := openB_iff.1 ho
      rw [growN_some hf]
      refine ⟨fun t ht => ?_, fun t t1 t2 t3 => ?_⟩
      · obtain ⟨x, hx, ht⟩ := List.mem_flatMap.1 ht
        exact (ih (srt_set (add_nodup hs (ho' x hx))) (by have := openN_less hl ho hx; omega)).1 t ht
      · obtain ⟨x, hx, hxt⟩ := t2 l hl
        obtain ⟨r, hr, hp⟩ := (ih (srt_set (add_nodup hs (ho' x hx))) (by have := openN_less hl ho hx; omega)).2 t t1 t2 (fun y hy => by
          rcases List.mem_append.1 (mem_srt.1 hy) with h | h
          · exact t3 y h
          · rw [List.mem_singleton.1 h]; exact hxt)
        exact ⟨r, List.mem_flatMap.2 ⟨x, hx, hr⟩, hp⟩
theorem grow_hitting (F : List (List Int)) {n : Nat} (hn : openN F [] ≤ n) : IsHitting F (minimalF (growN F n [])) := by
  obtain ⟨h1, h2⟩ := growN_spec (F := F) n (s := []) List.Pairwise.nil hn
  exact hitting_of_all h1 (fun t t1 t2 => h2 t t1 t2 (fun _ h => by cases h)) (minimalF_spec _)
def fac : Nat → Nat
  | 0 => 1
  | n + 1 => (n + 1) * fac n
theorem fac_pos : ∀ n, 0 < fac n
  | 0 => by decide
  | n + 1 => Nat.mul_pos (by omega) (fac_pos n)
theorem sum_le {α : Type} {l : List α} {f : α → Nat} {k : Nat} (h : ∀ x ∈ l, f x ≤ k) : (l.map f).sum ≤ l.length * k := by
  induction l with
  | nil => simp
  | cons x l ih =>
    have h1 := ih (fun y hy => h y (List.mem_cons_of_mem _ hy))
    have h2 := h x List.mem_cons_self
    simp only [List.map_cons, List.sum_cons, List.length_cons, Nat.succ_mul]
    omega
theorem growN_length {F : List (List Int)} {U : List Int} (hF : ∀ l ∈ F, IsSet l ∧ Part l U) : ∀ n {s : List Int}, IsSet s → Part s U → (growN F n s).length ≤ fac (U.length - s.length) := by
  intro n
  induction n with
  | zero => intro s _ _; exact fac_pos _
  | succ n ih =>
    intro s hs hp
    cases hf : F.find? (openB s) with
    | none =>
      have h : ∀ l ∈ F, openB s l = false := fun l hl => by have := List.find?_eq_none.1 hf l hl; simpa using this
      rw [growN_none h]; exact fac_pos _
    | some l =>
      have hl := List.mem_of_find?_eq_some hf
      have ho' := openB_iff.1 (List.find?_some hf)
      rw [growN_some hf, List.length_flatMap]
      obtain ⟨l1, l2⟩ := hF l hl
      have hnd : (s ++ l).Nodup := List.nodup_append.2 ⟨hs.nodup, l1.nodup, fun a ha b hb e => ho' b hb (e ▸ ha)⟩
      have hlen := nodup_length hnd (b := U) (fun x hx => (List.mem_append.1 hx).elim (fun h => hp x h) (fun h => l2 x h))
      rw [List.length_append] at hlen
      have h3 : ∀ x ∈ l, (growN F n (srt (s ++ [x]))).length ≤ fac (U.length - s.length - 1) := fun x hx => by
        have := ih (s := srt (s ++ [x])) (srt_set (add_nodup hs (ho' x hx))) (fun y hy => by
          rcases List.mem_append.1 (mem_srt.1 hy) with h | h
          · exact hp y h
          · rw [List.mem_singleton.1 h]; exact l2 x hx)
        rwa [srt_length, List.length_append, List.length_singleton, ← Nat.sub_sub] at this
      refine Nat.le_trans (sum_le h3) ?_
      cases e : U.length - s.length with
      | zero =>
        have h0 : l.length = 0 := by omega
        rw [h0]; simp
      | succ k => exact Nat.mul_le_mul (by omega) (by simp)
end BS
end
section
namespace BS
section
variable {I : List Int} {ag : List Int → Bool}
theorem minhit_part {F : List (List Int)} {U x : List Int} (hF : ∀ l ∈ F, Part l U) (h : MinHit F x) : Part x U := by
  obtain ⟨h1, h2, h3⟩ := h
  intro z hz
  obtain ⟨i, hi, rfl⟩ := List.mem_iff_getElem.1 hz
  refine Decidable.byContradiction fun hn => h3 i hi fun l hl => ?_
  obtain ⟨n, a, b⟩ := h2 l hl
  exact ⟨n, a, (mem_eraseIdx_set h1 hi).2 ⟨b, fun e => hn (e ▸ hF l hl n a)⟩⟩
end
def Up (I : List Int) (φ : Int → Int) : Prop := ∀ x ∈ I, ∀ y ∈ I, x < y → φ x < φ y
section
variable {I : List Int} {φ : Int → Int}
theorem Up.lt (h : Up I φ) {x y : Int} (hx : x ∈ I) (hy : y ∈ I) : φ x < φ y ↔ x < y := by
  constructor
  · intro e
    by_cases h1 : x < y
    · exact h1
    · by_cases h2 : y < x
      · have := h y hy x hx h2; omega
      · have : x = y := by omega
        rw [this] at e; omega
  · exact h x hx y hy
end
end BS
end
section
namespace BS
def keptAt (l : List Int) (j : Nat) : Bool := decide (j = 0) || !(decide (l.getD j 0 = l.getD (j - 1) 0))
def cptTo (l : List Int) (i : Nat) : List Int := ((List.range i).filter (keptAt l)).map fun j => l.getD j 0
def cptL (l : List Int) : List Int := cptTo l l.length
theorem cpt_pos {l : List Int} {i : Nat} (h : keptAt l i = true) : cptTo l (i + 1) = cptTo l i ++ [l.getD i 0] := by
  rw [cptTo, range_snoc, if_pos h]; simp [cptTo]
theorem cpt_neg {l : List Int} {i : Nat} (h : keptAt l i = false) : cptTo l (i + 1) = cptTo l i := by
  rw [cptTo, range_snoc, if_neg (by rw [h]; decide)]; simp [cptTo]
theorem cpt_length (l : List Int) (i : Nat) : (cptTo l i).length ≤ i := by rw [cptTo, List.length_map]; exact filter_range_le _ _
theorem kept_ne {l : List Int} {i k : Nat} (hk : k = i - 1) (h : ¬ l.getD i 0 = l.getD k 0) : keptAt l i = true := by subst hk; simp only [keptAt, h]; simp
theorem kept_eq {l : List Int} {i k : Nat} (h0 : 0 < i) (hk : k = i - 1) (h : l.getD i 0 = l.getD k 0) : keptAt l i = false := by subst hk; simp only [keptAt, h]; simp; omega
theorem cpt_all {l : List Int} {i : Nat} (hi : i ≤ l.length) (h : ∀ j, 0 < j → j < i → ¬ l.getD j 0 = l.getD (j - 1) 0) : cptTo l i = l.take i := by
  induction i with
  | zero => rfl
  | succ i ih =>
    have hk : keptAt l i = true := by
      by_cases h0 : i = 0
      · subst h0; simp [keptAt]
      · exact kept_ne rfl (h i (by omega) (by omega))
    rw [cpt_pos hk, ih (by omega) (fun j h1 h2 => h j h1 (by omega)), take_succ_getD l 0 (by omega)]
theorem cpt_mem_lt {l : List Int} {i : Nat} {x : Int} (h : x ∈ cptTo l i) : ∃ j, j < i ∧ x = l.getD j 0 := by
  obtain ⟨j, hj, rfl⟩ := List.mem_map.1 h
  exact ⟨j, List.mem_range.1 (List.mem_filter.1 hj).1, rfl⟩
theorem cpt_has {l : List Int} : ∀ (j : Nat) {i : Nat}, j < i → l.getD j 0 ∈ cptTo l i
  | 0, i, h => List.mem_map.2 ⟨0, List.mem_filter.2 ⟨List.mem_range.2 h, by simp [keptAt]⟩, rfl⟩
  | j + 1, i, h => by
    by_cases e : l.getD (j + 1) 0 = l.getD j 0
    · rw [e]; exact cpt_has j (by omega)
    · exact List.mem_map.2 ⟨j + 1, List.mem_filter.2 ⟨List.mem_range.2 h, kept_ne (by omega) e⟩, rfl⟩
theorem mem_cpt {l : List Int} {x : Int} : x ∈ cptL l ↔ x ∈ l := by
  constructor
  · intro h
    obtain ⟨j, hj, rfl⟩ := cpt_mem_lt h
    exact mem_getD hj
  · intro h
    obtain ⟨j, hj, rfl⟩ := List.mem_iff_getElem.1 h
    have := cpt_has (l := l) j hj
    rwa [List.getD_eq_getElem?_getD, List.getElem?_eq_getElem hj] at this
theorem cpt_set {l : List Int} (h : l.Pairwise (· ≤ ·)) : IsSet (cptL l) := by
  have key : ∀ i, i ≤ l.length → IsSet (cptTo l i) := by
    intro i
    induction i with
    | zero => exact fun _ => List.Pairwise.nil
    | succ i ih =>
      intro hi
      cases hk : keptAt l i with
      | false => rw [cpt_neg hk]; exact ih (by omega)
      | true =>
        rw [cpt_pos hk]
        refine List.pairwise_append.2 ⟨ih (by omega), by simp, fun x hx y hy => ?_⟩
        rw [List.mem_singleton.1 hy]
        obtain ⟨j, hj, rfl⟩ := cpt_mem_lt hx
        have hp : ∀ a b, a ≤ b → b < l.length → l.getD a 0 ≤ l.getD b 0 := fun a b hab hb => by
          by_cases e : a = b
          · rw [e]; exact Int.le_refl _
          · have := List.pairwise_iff_getElem.1 h a b (by omega) hb (by omega)
            rwa [List.getD_eq_getElem?_getD, List.getD_eq_getElem?_getD, List.getElem?_eq_getElem hb, List.getElem?_eq_getElem (by omega)]
        have h1 := hp j (i - 1) (by omega) (by omega)
        have h2 := hp (i - 1) i (by omega) (by omega)
        have h3 : ¬ l.getD i 0 = l.getD (i - 1) 0 := fun e => by rw [kept_eq (by omega) rfl e] at hk; cases hk
        omega
  exact key _ (Nat.le_refl _)
def membersL (F : List (List Int)) : List Int := cptL (srt F.flatten)
theorem srt_le (l : List Int) : (srt l).Pairwise (· ≤ ·) := by
  have h1 : (srt l).Pairwise fun x y => decide (x ≤ y) = true := List.pairwise_mergeSort (fun a b c h1 h2 => by simp only [decide_eq_true_eq] at *; omega) (fun a b => by simp only [Bool.or_eq_true, decide_eq_true_eq]; omega) l
  exact h1.imp fun h => by simpa using h
theorem members_set (F : List (List Int)) : IsSet (membersL F) := cpt_set (srt_le _)
theorem mem_members {F : List (List Int)} {x : Int} : x ∈ membersL F ↔ ∃ l ∈ F, x ∈ l := by rw [membersL, mem_cpt, mem_srt, List.mem_flatten]
end BS
end
section
namespace Go.Proofs.YtoakoffdjeleoaaGreat
open Go.RowKit Go.Shelf Go.Sort
variable {H : Gh}
theorem row_cut {α : Type} {A : Option Addr} {m c T k lo : Nat} {enc : α → List Value} {L : List α} {w : World} (hr : w.ownsRow 0 T k (.slice A m c) m (L.flatMap enc)) (hle : lo ≤ m) (hm : m = L.length) (hk : ∀ x, (enc x).length = k) : w.ownsRow 0 T k (.slice A lo c) lo ((L.take lo).flatMap enc) := by
  have hlen : ((L.take lo).flatMap enc).length = lo * k := by rw [flat_length enc k hk, List.length_take, Nat.min_eq_left (by omega)]
  refine ⟨hlen, ?_⟩
  rcases hr.2 with ⟨h0, h1⟩ | ⟨g, cap, cur, h1, h2, h3, h4, h5, h6, h7⟩
  · injection h0 with e1 e2 e3
    subst e1; subst e2; subst e3
    refine .inl ⟨?_, (show lo = 0 by omega)⟩
    rw [show lo = 0 by omega]
  · injection h1 with e1 e2 e3
    subst e1; subst e3
    refine .inr ⟨g, c, cur, rfl, h2, h3, by omega, h5, h6, ?_⟩
    have hmul : lo * k ≤ m * k := Nat.mul_le_mul_right _ hle
    have e9 : (L.flatMap enc).take (lo * k) = (L.take lo).flatMap enc := by
      have hs : L.flatMap enc = (L.take lo).flatMap enc ++ (L.drop lo).flatMap enc := by rw [← List.flatMap_append, List.take_append_drop]
      rw [hs, ← hlen, List.take_left']
      rfl
    rw [← e9, ← h7, List.take_take, Nat.min_eq_left hmul]
theorem post_cut {g m c lo : Nat} {l d : List Int} (hd : d.length = l.length) (hm : m = l.length) (h0 : 0 < m) (hlo : lo ≤ m) {w w' : World} {n : Nat} (hH : H.In w) (ho : Ow w H [] [LR (some ⟨g, 0, none⟩) m c 3 1 encI l]) (hw : w' = putRow (Value.int .i64) (Go.Sort.ahead w n) g 0 d.toArray) {end_ : Ending} (he : end_ = .returned (.slice (some ⟨g, 0, none⟩) lo c)) :
    PostC w H (foot [] [LR (some ⟨g, 0, none⟩) m c 3 1 encI l]) (fun _ : Unit => .slice (some ⟨g, 0, none⟩) lo c) (fun _ => []) (fun _ => [LR (some ⟨g, 0, none⟩) lo c 3 1 encI (d.take lo)]) (fun _ _ => True) end_ w' := by
  have hw2 : w' = grow (putRow (Value.int .i64) (Go.Sort.ahead w n) g 0 d.toArray) #[] := by rw [hw]; unfold grow; rw [Array.append_empty]
  obtain ⟨_, H', q1, q2, q3, q4, q5, q6, q7, _⟩ := post_row (e := Value.int .i64) (fun _ => rfl) hd hm h0 hH ho hw2 (end_ := .returned (.tuple #[])) rfl
  refine ⟨(), H', he, q2, q3, q4, q5, ⟨by simp, by simp, by simp, fun r hr => ?_, fun r hr b hb => ?_, by simp, by simp⟩, fun b hb => ?_, trivial⟩
  · rw [List.mem_singleton.1 hr]
    exact row_cut (q6.rows _ (List.mem_singleton.2 rfl)) hlo (by omega) (fun _ => rfl)
  · rw [List.mem_singleton.1 hr] at hb
    exact q6.rgh _ (List.mem_singleton.2 rfl) b hb
  · rcases mem_foot.1 hb with ⟨q, hq, _⟩ | ⟨r, hr', hg'⟩
    · cases hq
    · rw [List.mem_singleton.1 hr'] at hg'
      exact q7 b (mem_foot.2 (.inr ⟨_, List.mem_singleton.2 rfl, hg'⟩))
theorem post_kept {A : Option Addr} {m c : Nat} {l : List Int} {w : World} (hH : H.In w) (ho : Ow w H [] [LR A m c 3 1 encI l]) {end_ : Ending} (he : end_ = .returned (.slice A m c)) :
    PostC w H (foot [] [LR A m c 3 1 encI l]) (fun _ : Unit => .slice A m c) (fun _ => []) (fun _ => [LR A m c 3 1 encI l]) (fun _ _ => True) end_ w :=
  ⟨(), H, he, Kept.refl _ _, Gh.Le.refl _, Gh.NewS.refl _ _ _, hH, ho, fun _ hb => .inr hb, trivial⟩
theorem compact_eq (l : List Int) : Lib.compact l = BS.cptL l := by
  have e : ∀ j, (l.toArray[j]! : Int) = l.getD j 0 := fun j => by simp [List.getD_eq_getElem?_getD, getElem!_def]; cases l[j]? <;> rfl
  unfold Lib.compact Lib.compactUpTo BS.cptL BS.cptTo
  have hf : Lib.keeps l.toArray = BS.keptAt l := by
    funext j
    unfold Lib.keeps BS.keptAt
    rw [e, e, Bool.eq_iff_iff]
    simp
  rw [hf]
  exact List.map_congr_left fun j _ => e j
theorem cpt_le (l : List Int) : (BS.cptL l).length ≤ l.length := BS.cpt_length l _
theorem compact_cc {A : Option Addr} {m c : Nat} (l : List Int) (hm : m = l.length) (hn : l.length ≤ 1000000) : Cc Tryz.prog 171 [.slice A m c] H [] [LR A m c 3 1 encI l] (fun _ : Unit => .slice A (BS.cptL l).length c) (fun _ => []) (fun _ => [LR A (BS.cptL l).length c 3 1 encI (BS.cptL l)]) (fun _ _ => True) := fun w hH ho => by
  have hr := ho.rows _ (List.mem_singleton.2 rfl)
  by_cases h0 : m = 0
  · subst h0
    have hl : l = [] := List.eq_nil_of_length_eq_zero hm.symm
    subst hl
    refine (Tryz.slices_Compact_int_empty A c w).mono ?_
    rintro e w' ⟨h1, rfl⟩
    exact post_kept hH ho h1
  · obtain ⟨g, cur, rfl, _, _, hmc, _⟩ := row_some hr (show 0 < m by omega)
    obtain ⟨k1, k2, k3⟩ := holds_row (e := Value.int .i64) (fun _ => rfl) hm (by omega) hr
    have := Tryz.slices_Compact_int g 0 c l w k1 (by omega) (by omega)
    rw [← hm, compact_eq] at this
    refine this.mono ?_
    rintro e w' ⟨h1, n, h2⟩
    have hle := cpt_le l
    have := post_cut (d := BS.cptL l ++ List.replicate (m - (BS.cptL l).length) 0) (lo := (BS.cptL l).length) (by simp; omega) hm (by omega) (by omega) hH ho h2 h1
    rwa [List.take_left'] at this
    rfl
theorem grow_cw (n : Nat) (hn : n ≤ 1000000) : Cw Tryz.prog 212 [.slice none 0 0, .int .i64 (n : Int)] H 3 1 encI 0 [] fun A c => .slice A 0 c := fun w hH => by
  by_cases h0 : n = 0
  · subst h0
    refine (Any8.slices_Grow_room Tryz.laysGrow none 0 0 0 w (by omega) (by omega) (by omega) (by omega)).mono ?_
    rintro e w' ⟨rfl, rfl⟩
    exact ⟨none, 0, rfl, Kept.refl _ _, World.ownsRow_nil _ _ _ _⟩
  · obtain ⟨i0, hi0, hz, hs, hb⟩ : ∃ i, Tryz.prog.info? 3 = some i ∧ i.zero = some (.int .i64 0) ∧ i.size = 1 ∧ i.bytes = 8 := by
      have hi : (Tryz.prog.info? 3).map (fun i => (i.zero, i.size, i.bytes)) = some (some (.int .i64 0), 1, 8) := by kernel_rfl
      cases h : Tryz.prog.info? 3 with
      | none => rw [h] at hi; cases hi
      | some i =>
        rw [h] at hi
        simp only [Option.map_some, Option.some.injEq, Prod.mk.injEq] at hi
        exact ⟨i, rfl, hi.1, hi.2.1, hi.2.2⟩
    refine (Any8.slices_Grow_grow Tryz.laysGrow i0 (.int .i64 0) hi0 hz (by omega) none 0 0 n [] w (by omega) (by omega) (by rw [hb]; omega) (by omega) (by simp) (fun _ => rfl) (fun a h => by cases h)).mono ?_
    rintro e w' ⟨rfl, rfl⟩
    have hge : 0 + n ≤ grownCap w (0 + n) 0 (Tryz.laysGrow_ren.t 25) := grownCap_ge w _ _ _
    have hle : grownCap w (0 + n) 0 (Tryz.laysGrow_ren.t 25) ≤ maxLen := grownCap_le_maxLen w (0 + n) 0 _ (by unfold maxLen; omega)
    generalize grownCap w (0 + n) 0 (Tryz.laysGrow_ren.t 25) = G at hge hle ⊢
    have hz1 : ∀ k, (Builtin.zeroCells (Value.int .i64 0).cells k).size = k := fun k => by
      have := zeroCells_one (.int .i64 0) k
      have := congrArg List.length this
      show (Builtin.zeroCells #[.int .i64 0] k).size = k
      simpa using this
    refine ⟨_, _, rfl, ⟨rfl, rfl, rfl, by rw [World.size_alloc]; exact Nat.le_succ _, fun b hb _ => Below.heap_alloc w.drew _ b hb, Nat.le_succ _⟩, rfl, .inr ⟨w.heap.size, G, #[] ++ Builtin.zeroCells (Value.int .i64 0).cells (0 + n - 0) ++ Builtin.zeroCells (Value.int .i64 0).cells (G - (0 + n)), rfl, Nat.le_refl _, ?_, by omega, hle, ?_, ?_⟩⟩
    · show (w.drew.heap.push _)[w.drew.heap.size]? = _
      rw [Array.getElem?_push_size]
      rfl
    · simp only [Array.size_append, hz1]; simp; omega
    · simp
end Go.Proofs.YtoakoffdjeleoaaGreat
end
