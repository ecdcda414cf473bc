import Derived.Test.YtoakoffdjeleoaaGreatKa09
import Derived.Test.YtoakoffdjeleoaaGreatKa03
import Derived.Test.YtoakoffdjeleoaaGreatKa00
import Derived.Test.YtoakoffdjeleoaaGreatKa02
import Derived.Scope
set_option linter.unusedVariables false
set_option linter.unusedSimpArgs false
set_option linter.unusedSectionVars false
section
namespace Go.Proofs.YtoakoffdjeleoaaGreat
open Go.RowKit Go.Shelf Go.Sort
variable {H : Gh}
theorem row_cut {α : Type} {A : Option Addr} {m c T k lo : Nat} {enc : α → List Value} {L : List α} {w : World} (hr : w.ownsRow 0 T k (.slice A m c) m (L.flatMap enc)) (hle : lo ≤ m) (hm : m = L.length) (hk : ∀ x, (enc x).length = k) : w.ownsRow 0 T k (.slice A lo c) lo ((L.take lo).flatMap enc) := by
  have hlen : ((L.take lo).flatMap enc).length = lo * k := by rw [flat_length enc k hk, List.length_take, Nat.min_eq_left (by omega)]
  refine ⟨hlen, ?_⟩
  rcases hr.2 with ⟨h0, h1⟩ | ⟨g, cap, cur, h1, h2, h3, h4, h5, h6, h7⟩
  · injection h0 with e1 e2 e3
    subst e1; subst e2; subst e3
    refine .inl ⟨?_, (show lo = 0 by omega)⟩
    rw [show lo = 0 by omega]
  · injection h1 with e1 e2 e3
    subst e1; subst e3
    refine .inr ⟨g, c, cur, rfl, h2, h3, by omega, h5, h6, ?_⟩
    have hmul : lo * k ≤ m * k := Nat.mul_le_mul_right _ hle
    have e9 : (L.flatMap enc).take (lo * k) = (L.take lo).flatMap enc := by
      have hs : L.flatMap enc = (L.take lo).flatMap enc ++ (L.drop lo).flatMap enc := by rw [← List.flatMap_append, List.take_append_drop]
      rw [hs, ← hlen, List.take_left']
      rfl
    rw [← e9, ← h7, List.take_take, Nat.min_eq_left hmul]
theorem post_cut {g m c lo : Nat} {l d : List Int} (hd : d.length = l.length) (hm : m = l.length) (h0 : 0 < m) (hlo : lo ≤ m) {w w' : World} {n : Nat} (hH : H.In w) (ho : Ow w H [] [LR (some ⟨g, 0, none⟩) m c 3 1 encI l]) (hw : w' = putRow (Value.int .i64) (Go.Sort.ahead w n) g 0 d.toArray) {end_ : Ending} (he : end_ = .returned (.slice (some ⟨g, 0, none⟩) lo c)) :
    PostC w H (foot [] [LR (some ⟨g, 0, none⟩) m c 3 1 encI l]) (fun _ : Unit => .slice (some ⟨g, 0, none⟩) lo c) (fun _ => []) (fun _ => [LR (some ⟨g, 0, none⟩) lo c 3 1 encI (d.take lo)]) (fun _ _ => True) end_ w' := by
  have hw2 : w' = grow (putRow (Value.int .i64) (Go.Sort.ahead w n) g 0 d.toArray) #[] := by rw [hw]; unfold grow; rw [Array.append_empty]
  obtain ⟨_, H', q1, q2, q3, q4, q5, q6, q7, _⟩ := post_row (e := Value.int .i64) (fun _ => rfl) hd hm h0 hH ho hw2 (end_ := .returned (.tuple #[])) rfl
  refine ⟨(), H', he, q2, q3, q4, q5, ⟨by simp, by simp, by simp, fun r hr => ?_, fun r hr b hb => ?_, by simp, by simp⟩, fun b hb => ?_, trivial⟩
  · rw [List.mem_singleton.1 hr]
    exact row_cut (q6.rows _ (List.mem_singleton.2 rfl)) hlo (by omega) (fun _ => rfl)
  · rw [List.mem_singleton.1 hr] at hb
    exact q6.rgh _ (List.mem_singleton.2 rfl) b hb
  · rcases mem_foot.1 hb with ⟨q, hq, _⟩ | ⟨r, hr', hg'⟩
    · cases hq
    · rw [List.mem_singleton.1 hr'] at hg'
      exact q7 b (mem_foot.2 (.inr ⟨_, List.mem_singleton.2 rfl, hg'⟩))
theorem post_kept {A : Option Addr} {m c : Nat} {l : List Int} {w : World} (hH : H.In w) (ho : Ow w H [] [LR A m c 3 1 encI l]) {end_ : Ending} (he : end_ = .returned (.slice A m c)) :
    PostC w H (foot [] [LR A m c 3 1 encI l]) (fun _ : Unit => .slice A m c) (fun _ => []) (fun _ => [LR A m c 3 1 encI l]) (fun _ _ => True) end_ w :=
  ⟨(), H, he, Kept.refl _ _, Gh.Le.refl _, Gh.NewS.refl _ _ _, hH, ho, fun _ hb => .inr hb, trivial⟩
theorem compact_eq (l : List Int) : Lib.compact l = BS.cptL l := by
  have e : ∀ j, (l.toArray[j]! : Int) = l.getD j 0 := fun j => by simp [List.getD_eq_getElem?_getD, getElem!_def]; cases l[j]? <;> rfl
  unfold Lib.compact Lib.compactUpTo BS.cptL BS.cptTo
  have hf : Lib.keeps l.toArray = BS.keptAt l := by
    funext j
    unfold Lib.keeps BS.keptAt
    rw [e, e, Bool.eq_iff_iff]
    simp
  rw [hf]
  exact List.map_congr_left fun j _ => e j
theorem cpt_le (l : List Int) : (BS.cptL l).length ≤ l.length := BS.cpt_length l _
theorem compact_cc {A : Option Addr} {m c : Nat} (l : List Int) (hm : m = l.length) (hn : l.length ≤ 1000000) : Cc Tryz.prog 171 [.slice A m c] H [] [LR A m c 3 1 encI l] (fun _ : Unit => .slice A (BS.cptL l).length c) (fun _ => []) (fun _ => [LR A (BS.cptL l).length c 3 1 encI (BS.cptL l)]) (fun _ _ => True) := fun w hH ho => by
  have hr := ho.rows _ (List.mem_singleton.2 rfl)
  by_cases h0 : m = 0
  · subst h0
    have hl : l = [] := List.eq_nil_of_length_eq_zero hm.symm
    subst hl
    refine (Tryz.slices_Compact_int_empty A c w).mono ?_
    rintro e w' ⟨h1, rfl⟩
    exact post_kept hH ho h1
  · obtain ⟨g, cur, rfl, _, _, hmc, _⟩ := row_some hr (show 0 < m by omega)
    obtain ⟨k1, k2, k3⟩ := holds_row (e := Value.int .i64) (fun _ => rfl) hm (by omega) hr
    have := Tryz.slices_Compact_int g 0 c l w k1 (by omega) (by omega)
    rw [← hm, compact_eq] at this
    refine this.mono ?_
    rintro e w' ⟨h1, n, h2⟩
    have hle := cpt_le l
    have := post_cut (d := BS.cptL l ++ List.replicate (m - (BS.cptL l).length) 0) (lo := (BS.cptL l).length) (by simp; omega) hm (by omega) (by omega) hH ho h2 h1
    rwa [List.take_left'] at this
    rfl
theorem grow_cw (n : Nat) (hn : n ≤ 1000000) : Cw Tryz.prog 212 [.slice none 0 0, .int .i64 (n : Int)] H 3 1 encI 0 [] fun A c => .slice A 0 c := fun w hH => by
  by_cases h0 : n = 0
  · subst h0
    refine (Any8.slices_Grow_room Tryz.laysGrow none 0 0 0 w (by omega) (by omega) (by omega) (by omega)).mono ?_
    rintro e w' ⟨rfl, rfl⟩
    exact ⟨none, 0, rfl, Kept.refl _ _, World.ownsRow_nil _ _ _ _⟩
  · obtain ⟨i0, hi0, hz, hs, hb⟩ : ∃ i, Tryz.prog.info? 3 = some i ∧ i.zero = some (.int .i64 0) ∧ i.size = 1 ∧ i.bytes = 8 := by
      have hi : (Tryz.prog.info? 3).map (fun i => (i.zero, i.size, i.bytes)) = some (some (.int .i64 0), 1, 8) := by kernel_rfl
      cases h : Tryz.prog.info? 3 with
      | none => rw [h] at hi; cases hi
      | some i =>
        rw [h] at hi
        simp only [Option.map_some, Option.some.injEq, Prod.mk.injEq] at hi
        exact ⟨i, rfl, hi.1, hi.2.1, hi.2.2⟩
    refine (Any8.slices_Grow_grow Tryz.laysGrow i0 (.int .i64 0) hi0 hz (by omega) none 0 0 n [] w (by omega) (by omega) (by rw [hb]; omega) (by omega) (by simp) (fun _ => rfl) (fun a h => by cases h)).mono ?_
    rintro e w' ⟨rfl, rfl⟩
    have hge : 0 + n ≤ grownCap w (0 + n) 0 (Tryz.laysGrow_ren.t 25) := grownCap_ge w _ _ _
    have hle : grownCap w (0 + n) 0 (Tryz.laysGrow_ren.t 25) ≤ maxLen := grownCap_le_maxLen w (0 + n) 0 _ (by unfold maxLen; omega)
    generalize grownCap w (0 + n) 0 (Tryz.laysGrow_ren.t 25) = G at hge hle ⊢
    have hz1 : ∀ k, (Builtin.zeroCells (Value.int .i64 0).cells k).size = k := fun k => by
      have := zeroCells_one (.int .i64 0) k
      have := congrArg List.length this
      show (Builtin.zeroCells #[.int .i64 0] k).size = k
      simpa using this
    refine ⟨_, _, rfl, ⟨rfl, rfl, rfl, by rw [World.size_alloc]; exact Nat.le_succ _, fun b hb _ => Below.heap_alloc w.drew _ b hb, Nat.le_succ _⟩, rfl, .inr ⟨w.heap.size, G, #[] ++ Builtin.zeroCells (Value.int .i64 0).cells (0 + n - 0) ++ Builtin.zeroCells (Value.int .i64 0).cells (G - (0 + n)), rfl, Nat.le_refl _, ?_, by omega, hle, ?_, ?_⟩⟩
    · show (w.drew.heap.push _)[w.drew.heap.size]? = _
      rw [Array.getElem?_push_size]
      rfl
    · simp only [Array.size_append, hz1]; simp; omega
    · simp
end Go.Proofs.YtoakoffdjeleoaaGreat
end
section
set_option maxRecDepth 4000
set_option maxHeartbeats 4000000
namespace Go.Proofs.YtoakoffdjeleoaaGreat
open Go.RowKit Go.Shelf
instance : En Tryz.prog 212 := ⟨enters_of Tryz.func212 (by kernel_rfl) rfl⟩
attribute [local irreducible] BS.narrow BS.lookL BS.findE BS.findR BS.volMax BS.parts BS.checkP BS.solE BS.solR BS.solveR BS.furtherR BS.onlyP BS.decideP BS.formedB BS.checkB BS.subsetsL BS.onlyB sortI BS.minimalF BS.lightL decB witR leaP
theorem flat_succ {l : List (Sv Int)} {i : Nat} (hi : i < l.length) : ((svs l).take (i + 1)).flatten = ((svs l).take i).flatten ++ (l.getD i zS).l := by
 rw [BS.take_succ_getD (svs l) [] (by rw [List.length_map]; exact hi), List.flatten_append, svl_getD];simp
theorem flat_succ_len {l : List (Sv Int)} {i : Nat} (hi : i < l.length) : ((svs l).take (i + 1)).flatten.length = ((svs l).take i).flatten.length + (l.getD i zS).l.length := by rw [flat_succ hi, List.length_append]
theorem flat_le (l : List (Sv Int)) (i : Nat) : ((svs l).take i).flatten.length ≤ (svs l).flatten.length := by
 have h : (svs l).flatten = ((svs l).take i).flatten ++ ((svs l).drop i).flatten := by rw [← List.flatten_append, List.take_append_drop]
 rw [h, List.length_append]; omega
theorem concat_cw {H : Gh} {A : Option Addr} {c m : Nat} (l : List (Sv Int)) (hl : GRow H A c encS 1 l) (hgs : GSets H encI 1 l) (hm : m = l.length) (hn : (svs l).flatten.length ≤ 1000000) : Cw Tryz.prog 169 [.slice A m c] H 3 1 encI (svs l).flatten.length (svs l).flatten fun A c => .slice A (svs l).flatten.length c := by
 have hbl : l.length ≤ 9223372036854775807 := Nat.le_trans hl.1 hl.2.1;refine cw_of Tryz.func169 rfl Tryz.ntmps169 rfl fun w0 hw => ?_;refine c_seq<|c_region ?_;refine la ?_;refine l_end<|x_next<|c_seq<|c_region ?_;refine la ?_;refine l_end<|x_next<|c_seq<|c_seq<|c_region ?_;refine lm ?_;refine llen ?_;refine lm ?_;refine l_end<|x_next<|c_block ?_;refine c_loop (ι := Nat) (fun i => [(0, true, .slice A m c), (2, true, .slice none 0 0), (3, true, .int .i64 ((((svs l).take i).flatten.length : Nat) : Int)), (9, true, .slice A m c), (10, true, .int .i64 (m : Int)), (11, true, .int .i64 ((i : Nat) : Int))]) (fun i => []) (fun i => []) (fun _ => H) (fun i => i ≤ l.length) (fun i => l.length - i) 0 (Nat.zero_le _) rfl (sub_cons rfl (sub_cons rfl (sub_int rfl (by first | rfl | (rw [flat_succ_len (by omega)]; push_cast; rfl)) (sub_cons rfl (sub_cons rfl (sub_cons rfl (sub_nil _))))))) (rfl) (rfl) ?_
 rintro i hi1
 show RK (Code.wp _ _ _) _ _ _ _ [(0, true, .slice A m c), (2, true, .slice none 0 0), (3, true, .int .i64 ((((svs l).take i).flatten.length : Nat) : Int)), (9, true, .slice A m c), (10, true, .int .i64 (m : Int)), (11, true, .int .i64 ((i : Nat) : Int))] [] [];replace hi1 : i ≤ l.length := hi1;have hfl := flat_le l i;have hfs : i < l.length → _ := fun h => flat_succ_len (l := l) h;have hfl2 := flat_le l (i + 1);refine c_seq<|c_region ?_;refine llss ?_;refine l_end<|x_next<|c_seq ?_;refine c_if (by rfl) (fun h2 => ?_) (fun h2 => ?_)
 ·have h2' := h2;(try simp only [bps] at h2);refine c_skip ?_;refine x_next<|c_seq<|c_block<|c_seq<|c_region ?_;refine lix hl zS i (fun p3 o4 g5 => ?_) (hm := hm);refine lg 0 g5 ?_;refine la ?_;refine l_end<|x_next<|c_seq<|c_region ?_;refine lm ?_;refine lm ?_;refine llen ?_;refine ladd ?_;refine la ?_;refine l_end<|x_next<|c_seq<|c_region ?_;refine lm ?_;refine llss ?_;refine l_end<|x_next ?_;refine c_if (by rfl) (fun h6 => ?_) (fun h6 => ?_)
  ·have h6' := h6;(try simp only [bps] at h6);exfalso;omega
  ·have h6' := h6;(try simp only [bps] at h6);refine c_skip ?_;refine x_bn ?_;refine x_next<|c_region ?_;refine ladd ?_;refine lm ?_;refine l_end ?_;exact x_round (i + 1) (by omega) (by first | omega | (dsimp only; omega)) rfl (sub_cons rfl (sub_cons rfl (sub_int rfl (by first | rfl | (rw [flat_succ_len (by omega)]; push_cast; rfl)) (sub_cons rfl (sub_cons rfl (sub_int rfl (by first | rfl | omega | (simp; done)) (sub_nil _))))))) (rfl) (rfl)
 ·have h2' := h2;(try simp only [bps] at h2);refine c_exit ?_;refine x_te ?_;refine x_te ?_;refine x_be ?_;refine x_next<|c_seq<|c_region ?_;refine lm ?_;refine l_x (x_callw (vs := [.slice none 0 0, .int .i64 ((((svs l).take i).flatten.length : Nat) : Int)]) (grow_cw ((svs l).take i).flatten.length (by omega)) (fun A7 c8 => ?_) (hx := ⟨(by exact e1 rfl), (by exact e1 rfl), trivial⟩));refine la ?_;refine l_end<|x_next<|c_seq<|c_seq<|c_region ?_;refine lm ?_;refine llen ?_;refine lm ?_;refine l_end<|x_next<|c_block ?_;refine c_loop (ι := Nat × Option Addr × Nat) (fun ⟨j, A1, c1⟩ => [(2, true, .slice none 0 0), (6, true, .slice A1 ((svs l).take j).flatten.length c1), (25, true, .slice A m c), (26, true, .int .i64 (m : Int)), (27, true, .int .i64 ((j : Nat) : Int))]) (fun ⟨j, A1, c1⟩ => []) (fun ⟨j, A1, c1⟩ => [LR A1 ((svs l).take j).flatten.length c1 3 1 encI ((svs l).take j).flatten]) (fun _ => H) (fun ⟨j, A1, c1⟩ => j ≤ l.length) (fun ⟨j, A1, c1⟩ => l.length - j) (0, A7, c8) (Nat.zero_le _) rfl (sub_cons rfl (sub_eq rfl (by first | rfl | (rw [flat_succ (by omega)])) (sub_cons rfl (sub_cons rfl (sub_cons rfl (sub_nil _)))))) (rfl) (rfl) ?_
  rintro ⟨j, A1, c1⟩ hi10
  show RK (Code.wp _ _ _) _ _ _ _ [(2, true, .slice none 0 0), (6, true, .slice A1 ((svs l).take j).flatten.length c1), (25, true, .slice A m c), (26, true, .int .i64 (m : Int)), (27, true, .int .i64 ((j : Nat) : Int))] [] [LR A1 ((svs l).take j).flatten.length c1 3 1 encI ((svs l).take j).flatten];replace hi10 : j ≤ l.length := hi10;have hfl := flat_le l j;have hfs : j < l.length → _ := fun h => flat_succ_len (l := l) h;have hfl2 := flat_le l (j + 1);refine c_seq<|c_region ?_;refine llss ?_;refine l_end<|x_next<|c_seq ?_;refine c_if (by rfl) (fun h11 => ?_) (fun h11 => ?_)
  ·have h11' := h11;(try simp only [bps] at h11);refine c_skip ?_;refine x_next<|c_seq<|c_block<|c_seq<|c_region ?_;refine lix hl zS j (fun p12 o13 g14 => ?_) (hm := hm);refine lg 0 g14 ?_;refine la ?_;refine l_end<|x_next<|c_region ?_;refine lm ?_;refine lm ?_;refine l_x (x_appg 0 (gs_at hgs (j) zS (by omega)) (fun A15 c16 => ?_) (hb := by omega) (hb' := by omega));refine la ?_;refine l_end ?_;refine x_bn ?_;refine x_next<|c_region ?_;refine ladd ?_;refine lm ?_;refine l_end ?_;exact x_round ((j + 1), A15, c16) (by omega) (by first | omega | (dsimp only; omega)) rfl (sub_cons rfl (sub_eq rfl (by first | rfl | (rw [flat_succ (by omega)])) (sub_cons rfl (sub_cons rfl (sub_int rfl (by first | rfl | omega | (simp; done)) (sub_nil _)))))) (rfl) (by dsimp only; rw [flat_succ (by omega)]; first | done | rfl)
  ·have h11' := h11;(try simp only [bps] at h11);refine c_exit ?_;refine x_te ?_;refine x_te ?_;refine x_be ?_;refine x_next<|c_seq<|c_region ?_;refine lm ?_;refine la ?_;refine l_end<|x_next ?_;refine c_ret ?_;obtain rfl : j = l.length := by omega
   rw [show (svs l).take l.length = svs l from List.take_of_length_le (by rw [List.length_map]; exact Nat.le_refl _)];exact x_retw (vs := [_]) 0 rfl ⟨rfl, trivial⟩
theorem members_cw {H : Gh} {A : Option Addr} {c m : Nat} (l : List (Sv Int)) (hl : GRow H A c encS 1 l) (hgs : GSets H encI 1 l) (hm : m = l.length) (hn : (svs l).flatten.length ≤ 1000000) : Cw Tryz.prog 100 [.slice A m c] H 3 1 encI (BS.membersL (svs l)).length (BS.membersL (svs l)) fun A c => .slice A (BS.membersL (svs l)).length c := by
 refine cw_of Tryz.func100 rfl Tryz.ntmps100 rfl fun w0 hw => ?_;refine c_seq<|c_region ?_;refine la ?_;refine l_end<|x_next<|c_seq<|c_region ?_;refine lm ?_;refine l_x (x_callw (vs := [.slice A m c]) (concat_cw l hl hgs hm hn) (fun A1 c2 => ?_) (hx := ⟨(by exact e1 rfl), trivial⟩));refine la ?_;refine l_end<|x_next<|c_seq<|c_region ?_;refine lm ?_;have hc4 : Cc Tryz.prog 170 [.slice A1 (svs l).flatten.length c2] H [] [LR A1 (svs l).flatten.length c2 3 1 encI (svs l).flatten] _ _ _ _ := sort_cc (svs l).flatten rfl hn;refine k_rf 0 ?_;refine l_x (x_callc (vs := [.slice A1 (svs l).flatten.length c2]) (M2 := []) (R2 := []) (dst := some 7) hc4 (fun H5 y6 le7 f8 => ?_) (hx := ⟨(by exact e1 rfl), trivial⟩));obtain _ := f8;show RK _ _ _ _ _ ((7, true, .tuple #[]) :: _) [] [LR A1 (svs l).flatten.length c2 3 1 encI (sortI (svs l).flatten)];refine l_end<|x_next<|c_seq<|c_region ?_;refine lm ?_;have hc9 : Cc Tryz.prog 171 [.slice A1 (svs l).flatten.length c2] H5 [] [LR A1 (svs l).flatten.length c2 3 1 encI (sortI (svs l).flatten)] _ _ _ _ := compact_cc (sortI (svs l).flatten) (by rw [sortI_length]) (by rw [sortI_length]; exact hn)
 refine k_rf 0 ?_;refine l_x (x_callc (vs := [.slice A1 (svs l).flatten.length c2]) (M2 := []) (R2 := []) (dst := some 9) hc9 (fun H10 y11 le12 f13 => ?_) (hx := ⟨(by exact e1 rfl), trivial⟩));obtain _ := f13;show RK _ _ _ _ _ ((9, true, .slice A1 (BS.cptL (sortI (svs l).flatten)).length c2) :: _) [] [LR A1 (BS.cptL (sortI (svs l).flatten)).length c2 3 1 encI (BS.cptL (sortI (svs l).flatten))];refine la ?_;refine l_end<|x_next ?_;refine c_ret ?_;have e9 : BS.cptL (sortI (svs l).flatten) = BS.membersL (svs l) := by unfold BS.membersL sortI; rfl
 rw [e9];exact x_retw (vs := [_]) 0 rfl ⟨rfl, trivial⟩
end Go.Proofs.YtoakoffdjeleoaaGreat
end
section
namespace BS
def badS (s : List Int) : Bool := !(isSetL s) || s.any fun x => !(within x 1 64)
def famE (F : List (List Int)) : Int := if 80 < F.length then 2 else if F.any badS = true then 1 else 0
theorem fam_big {F : List (List Int)} (h : 80 < F.length) : famE F = 2 := if_pos h
theorem fam_bad {F : List (List Int)} (h : ¬ 80 < F.length) {i : Nat} (hi : i < F.length) (hb : badS (F.getD i []) = true) : famE F = 1 := (if_neg h).trans (if_pos (List.any_eq_true.2 ⟨_, mem_getD hi, hb⟩))
theorem fam_ok {F : List (List Int)} (h : ¬ 80 < F.length) (hb : ∀ j, j < F.length → badS (F.getD j []) = false) : famE F = 0 := (if_neg h).trans (if_neg (by
  rw [List.any_eq_true]
  rintro ⟨s, hs, h1⟩
  obtain ⟨j, hj, rfl⟩ := List.mem_iff_getElem.1 hs
  have := hb j hj
  rw [List.getD_eq_getElem?_getD, List.getElem?_eq_getElem hj, Option.getD_some] at this
  rw [this] at h1; cases h1))
structure GoodF (F : List (List Int)) : Prop where
  len : F.length ≤ 80
  set : Sets F
  el : ∀ s ∈ F, ∀ x ∈ s, 1 ≤ x ∧ x ≤ 64
theorem fam_good {F : List (List Int)} (h : famE F = 0) : GoodF F := by
  unfold famE at h
  split at h
  · cases h
  · rename_i h1
    split at h
    · cases h
    · rename_i h2
      have hb : ∀ s ∈ F, badS s = false := fun s hs => by
        cases e : badS s with
        | false => rfl
        | true => exact absurd (List.any_eq_true.2 ⟨s, hs, e⟩) h2
      refine ⟨by omega, fun s hs => ?_, fun s hs x hx => ?_⟩
      · have := hb s hs
        simp only [badS, Bool.or_eq_false_iff, Bool.not_eq_false'] at this
        exact isSet_pw.1 this.1
      · have := hb s hs
        simp only [badS, Bool.or_eq_false_iff, List.any_eq_false, Bool.not_eq_true, Bool.not_eq_false', within, Bool.and_eq_true, decide_eq_true_eq] at this
        exact this.2 x hx
theorem set_64 {s : List Int} (h : IsSet s) (hx : ∀ x ∈ s, 1 ≤ x ∧ x ≤ 64) : s.length ≤ 64 := by
  have := nodup_length h.nodup (b := (List.range 64).map fun n => ((n : Nat) : Int) + 1) fun x hm => by
    obtain ⟨h1, h2⟩ := hx x hm
    exact List.mem_map.2 ⟨(x - 1).toNat, List.mem_range.2 (by omega), by omega⟩
  simpa using this
theorem flat_small {F : List (List Int)} {k : Nat} (h : ∀ s ∈ F, s.length ≤ k) : F.flatten.length ≤ F.length * k := by
  rw [List.length_flatten]; exact sum_le h
theorem good_flat {F : List (List Int)} (h : GoodF F) : F.flatten.length ≤ 5120 := by
  have h1 := flat_small (F := F) (k := 64) fun s hs => set_64 (h.set s hs) (h.el s hs)
  have h2 := h.len
  omega
theorem minimal_sub {F : List (List Int)} {s : List Int} (h : s ∈ minimalF F) : s ∈ F := (((minimalF_spec F).mem s).1 h).1
theorem growN_len {F : List (List Int)} : ∀ n {s t : List Int}, t ∈ growN F n s → t.length ≤ s.length + n := by
  intro n
  induction n with
  | zero => intro s t h; rw [List.mem_singleton.1 h]; omega
  | succ n ih =>
    intro s t h
    cases hf : F.find? (openB s) with
    | none =>
      rw [growN_none (fun l hl => by have := List.find?_eq_none.1 hf l hl; simpa using this)] at h
      rw [List.mem_singleton.1 h]; omega
    | some l =>
      rw [growN_some hf] at h
      obtain ⟨x, _, h⟩ := List.mem_flatMap.1 h
      have := ih h
      rw [srt_length, List.length_append, List.length_singleton] at this
      omega
theorem openN_le (F : List (List Int)) (s : List Int) : openN F s ≤ F.length := List.countP_le_length
theorem openN_pos {F : List (List Int)} {s l : List Int} (hl : l ∈ F) (h : openB s l = true) : 0 < openN F s := List.countP_pos_iff.2 ⟨l, hl, h⟩
theorem grow_sets (F : List (List Int)) {n : Nat} (hn : openN F [] ≤ n) : Sets (growN F n []) := fun t ht => ((growN_spec (F := F) n (s := []) List.Pairwise.nil hn).1 t ht).1
def hitL (F : List (List Int)) : List (List Int) := minimalF (growN F F.length [])
theorem hitL_is (F : List (List Int)) : IsHitting F (hitL F) := grow_hitting F (openN_le F [])
theorem grow_small {F : List (List Int)} {U : List Int} (hF : ∀ l ∈ F, IsSet l ∧ Part l U) (h8 : U.length ≤ 8) (n : Nat) : (growN F n []).length ≤ 40320 := by
  have h1 := growN_length hF n (s := []) List.Pairwise.nil (fun _ h => by cases h)
  have h2 : ∀ k, k ≤ 8 → fac k ≤ 40320 := fun k hk => by
    have : k = 0 ∨ k = 1 ∨ k = 2 ∨ k = 3 ∨ k = 4 ∨ k = 5 ∨ k = 6 ∨ k = 7 ∨ k = 8 := by omega
    rcases this with h | h | h | h | h | h | h | h | h <;> subst h <;> decide
  exact Nat.le_trans h1 (h2 _ (by simp; omega))
def hitE (F : List (List Int)) : Int := if famE F = 0 then (if 8 < (membersL F).length then 2 else 0) else famE F
def minX (F : List (List Int)) : List (List Int) := if famE F = 0 then minimalF F else []
def hitX (F : List (List Int)) : List (List Int) := if hitE F = 0 then hitL (minimalF F) else []
theorem part_members {F : List (List Int)} {l : List Int} (h : l ∈ F) : Part l (membersL F) := fun _ hx => mem_members.2 ⟨l, h, hx⟩
theorem hit_bad {F : List (List Int)} (h : ¬ famE F = 0) : hitE F = famE F ∧ hitX F = [] := by
  have e : hitE F = famE F := if_neg h
  exact ⟨e, if_neg (by rw [e]; exact h)⟩
theorem hit_many {F : List (List Int)} (h : famE F = 0) (h2 : 8 < (membersL F).length) : hitE F = 2 ∧ hitX F = [] := by
  have e : hitE F = 2 := (if_pos h).trans (if_pos h2)
  exact ⟨e, if_neg (by rw [e]; decide)⟩
theorem hit_ok {F : List (List Int)} (h : famE F = 0) (h2 : ¬ 8 < (membersL F).length) : hitE F = 0 ∧ hitX F = hitL (minimalF F) := by
  have e : hitE F = 0 := (if_pos h).trans (if_neg h2)
  exact ⟨e, if_pos e⟩
theorem flatMap_take_le {α β : Type} (f : α → List β) (l : List α) (i : Nat) : ((l.take i).flatMap f).length ≤ (l.flatMap f).length := by
  have h : l.flatMap f = (l.take i).flatMap f ++ (l.drop i).flatMap f := by rw [← List.flatMap_append, List.take_append_drop]
  rw [h, List.length_append]; omega
theorem flatMap_take_succ {α β : Type} (f : α → List β) (l : List α) (z : α) {i : Nat} (hi : i < l.length) : (l.take (i + 1)).flatMap f = (l.take i).flatMap f ++ f (l.getD i z) := by
  rw [take_succ_getD l z hi, List.flatMap_append]; simp
end BS
end
section
namespace Go.Proofs.YtoakoffdjeleoaaGreat
open Go.RowKit
variable {P : Program} {ops : Array Oper} {Q : Exit → Act → World → Prop} {C : Cx} {n : Nat} {D : List Deferred} {H : Gh} {E : Env} {M : List (Nat × Obj)} {R : List Rw}
theorem c_scope {c : Code} (h : RK (c.wp P (Exit.noGoto Q)) C n D H E M R) : RK ((Code.scope c).wp P Q) C n D H E M R := fun a w s => wp_scope_straight (h a w s)
theorem c_label {l : Nat} (h : RK (Q .normal) C n D H E M R) : RK ((Code.label l).wp P Q) C n D H E M R := fun a w s => wp_label (h a w s)
theorem x_scn (h : RK (Q .normal) C n D H E M R) : RK (Exit.noGoto Q .normal) C n D H E M R := h
theorem x_scr (h : RK (Q .ret) C n D H E M R) : RK (Exit.noGoto Q .ret) C n D H E M R := h
end Go.Proofs.YtoakoffdjeleoaaGreat
end
section
set_option maxRecDepth 4000
set_option maxHeartbeats 4000000
namespace Go.Proofs.YtoakoffdjeleoaaGreat
open Go.RowKit Go.Shelf
attribute [local irreducible] BS.narrow BS.lookL BS.findE BS.findR BS.volMax BS.parts BS.checkP BS.solE BS.solR BS.solveR BS.furtherR BS.onlyP BS.decideP BS.formedB BS.checkB BS.subsetsL BS.onlyB sortI BS.minimalF BS.lightL decB witR leaP BS.growN BS.openB BS.openN BS.famE BS.membersL
theorem sortI_srt (l : List Int) : sortI l = BS.srt l := by unfold sortI; rfl
instance : En Tryz.prog 162 := ⟨enters_of Tryz.func162 (by kernel_rfl) rfl⟩
theorem cf1_cv {H : Gh} (x : Int) : Cv Tryz.prog 162 [.int .i64 x] H fun u_ => u_ = .bool (!(BS.within x 1 64)) := by
 refine cv_of Tryz.func162 rfl Tryz.ntmps162 rfl fun w0 hw => ?_;refine c_seq<|c_region ?_;refine la ?_;refine l_end<|x_next<|c_seq<|c_region ?_;refine lm ?_;refine lcl (within7_cv x 1 64) ?_;refine lnot ?_;refine la ?_;refine l_end<|x_next ?_;refine c_ret ?_;refine x_ret (vs := [.bool (!(BS.within x 1 64))]) rfl ⟨rfl, trivial⟩ ?_;rfl
theorem checkF_cv {H : Gh} {A : Option Addr} {c m : Nat} (l : List (Sv Int)) (hl : GRow H A c encS 1 l) (hgs : GSets H encI 1 l) (hm : m = l.length) : Cv Tryz.prog 96 [.slice A m c] H fun u_ => u_ = .int .i64 (BS.famE (svs l)) := by
 have hbl : l.length ≤ 9223372036854775807 := Nat.le_trans hl.1 hl.2.1;refine cv_of Tryz.func96 rfl Tryz.ntmps96 rfl fun w0 hw => ?_;refine c_seq<|c_region ?_;refine la ?_;refine l_end<|x_next<|c_seq<|c_seq<|c_region ?_;refine lm ?_;refine llen ?_;refine lgtr ?_;refine l_end<|x_next ?_;refine c_if (by rfl) (fun h1 => ?_) (fun h1 => ?_)
 ·have h1' := h1;(try simp only [bps] at h1);refine c_seq<|c_region ?_;refine la ?_;refine l_end<|x_next ?_;refine c_ret ?_;refine x_tr ?_;refine x_ret (vs := [.int .i64 2]) rfl ⟨rfl, trivial⟩ ?_;show Value.int .i64 _ = .int .i64 _;rw [BS.fam_big (by rw [List.length_map]; omega)]
 ·have h1' := h1;(try simp only [bps] at h1);refine c_skip ?_;refine x_next<|c_seq<|c_seq<|c_region ?_;refine lm ?_;refine llen ?_;refine lm ?_;refine l_end<|x_next<|c_block ?_;refine c_loop (ι := Nat) (fun i => [(8, true, .slice A m c), (9, true, .int .i64 (m : Int)), (10, true, .int .i64 ((i : Nat) : Int))]) (fun i => []) (fun i => []) (fun _ => H) (fun i => i ≤ l.length ∧ ∀ j, j < i → BS.badS ((svs l).getD j []) = false) (fun i => l.length - i) 0 (⟨Nat.zero_le _, fun j h => by omega⟩) rfl (sub_cons rfl (sub_cons rfl (sub_cons rfl (sub_nil _)))) (rfl) (rfl) ?_
  rintro i hi2
  show RK (Code.wp _ _ _) _ _ _ _ [(8, true, .slice A m c), (9, true, .int .i64 (m : Int)), (10, true, .int .i64 ((i : Nat) : Int))] [] [];replace hi2 : i ≤ l.length ∧ ∀ j, j < i → BS.badS ((svs l).getD j []) = false := hi2;obtain ⟨hi1, hi2⟩ := hi2;refine c_seq<|c_region ?_;refine llss ?_;refine l_end<|x_next<|c_seq ?_;refine c_if (by rfl) (fun h3 => ?_) (fun h3 => ?_)
  ·have h3' := h3;(try simp only [bps] at h3);refine c_skip ?_;refine x_next<|c_seq<|c_block<|c_seq<|c_region ?_;refine lix hl zS i (fun p4 o5 g6 => ?_) (hm := hm);refine lg 0 g6 ?_;refine la ?_;refine l_end<|x_next<|c_seq<|c_region ?_;refine lm ?_;refine lcl (isSet_cv (l.getD i zS).l (gs_at hgs (i) zS (by omega)) rfl) ?_;refine lnot ?_;refine lm ?_;refine l_v (p_move (by exact .not rfl rfl) (by exact e1 rfl)) ?_;refine l_x (x_calle (vs := [.slice (l.getD i zS).A (l.getD i zS).l.length (l.getD i zS).c, .func (.func 162) #[] #[]]) (by exact .not rfl rfl) ⟨(by exact e2 rfl), (by exact e1 rfl), trivial⟩ (fun hb => containsFI_cv (l.getD i zS).l (gs_at hgs (i) zS (by omega)) rfl [] (fun x => !(BS.within x 1 64)) (fun x _ _ => cf1_cv x)) (k := ?_));refine l_v (p_or (by rfl) (by rfl)) ?_;refine l_end<|x_next ?_;refine c_if (by rfl) (fun h7 => ?_) (fun h7 => ?_)
   ·have h7' := h7;(try simp only [bps] at h7);refine c_seq<|c_region ?_;refine la ?_;refine l_end<|x_next ?_;refine c_ret ?_;refine x_br ?_;refine x_tr ?_;refine x_tr ?_;refine x_br ?_;refine x_tr ?_;refine x_ret (vs := [.int .i64 1]) rfl ⟨rfl, trivial⟩ ?_;show Value.int .i64 _ = .int .i64 _;rw [BS.fam_bad (i := i) (by rw [List.length_map]; omega) (by rw [List.length_map]; omega) (by rw [svl_getD]; exact h7')]
   ·have h7' := h7;(try simp only [bps] at h7);refine c_skip ?_;refine x_bn ?_;refine x_next<|c_region ?_;refine ladd ?_;refine lm ?_;refine l_end ?_;exact x_round (i + 1) (⟨by omega, fun j hj => by by_cases e : j < i; exact hi2 j e; obtain rfl : j = i := (by omega); rw [svl_getD]; exact h7'⟩) (by first | omega | (dsimp only; omega)) rfl (sub_cons rfl (sub_cons rfl (sub_int rfl (by first | rfl | omega | (simp; done)) (sub_nil _)))) (rfl) (rfl)
  ·have h3' := h3;(try simp only [bps] at h3);refine c_exit ?_;refine x_te ?_;refine x_te ?_;refine x_be ?_;refine x_next<|c_seq<|c_region ?_;refine la ?_;refine l_end<|x_next ?_;refine c_ret ?_;refine x_ret (vs := [.int .i64 0]) rfl ⟨rfl, trivial⟩ ?_;show Value.int .i64 _ = .int .i64 _;rw [BS.fam_ok (by rw [List.length_map]; omega) (fun j hj => hi2 j (by rw [List.length_map] at hj; omega))]
theorem hits_no {l : List (Sv Int)} {S : List Int} {i : Nat} (hi : i < l.length) (h : ((l.getD i zS).l.any fun x => decide (x ∈ S)) = false) : BS.hitsB S (svs l) = false := by
 cases e : BS.hitsB S (svs l) with
 | false => rfl
 | true =>
  have h1 := List.all_eq_true.1 e ((svs l).getD i []) (BS.mem_getD (by rw [List.length_map]; exact hi));rw [svl_getD] at h1;have h2 : ((l.getD i zS).l.any fun x => decide (x ∈ S)) = true := by simpa using h1
  rw [h2] at h; cases h
theorem hits_yes {l : List (Sv Int)} {S : List Int} (h : ∀ j, j < l.length → ((l.getD j zS).l.any fun x => decide (x ∈ S)) = true) : BS.hitsB S (svs l) = true := by
 refine List.all_eq_true.2 fun s hs => ?_;obtain ⟨j, hj, rfl⟩ := List.mem_iff_getElem.1 hs;have := h j (by rw [List.length_map] at hj; exact hj);rw [← svl_getD, List.getD_eq_getElem?_getD, List.getElem?_eq_getElem hj, Option.getD_some] at this
 simpa using this
theorem hits1_cv {H : Gh} (x : Int) {AI : Option Addr} {cI mI : Nat} (L : List Int) (hI : GRow H AI cI encI 1 L) (hm : mI = L.length) (b0 : Nat) (hb : GAt H b0 0 [.slice AI mI cI]) : Cv Tryz.prog 105 [.int .i64 x, .pointer (some ⟨b0, 0, none⟩)] H fun u_ => u_ = .bool (decide (x ∈ L)) := by
 refine cv_of Tryz.func105 rfl Tryz.ntmps105 rfl fun w0 hw => ?_;refine c_seq<|c_region ?_;refine la ?_;refine l_end<|x_next<|c_seq<|c_region ?_;refine lg 0 hb ?_;refine lm ?_;refine lcl (contains_cv L x hI hm) ?_;refine la ?_;refine l_end<|x_next ?_;refine c_ret ?_;refine x_ret (vs := [.bool (decide (x ∈ L))]) rfl ⟨rfl, trivial⟩ ?_;rfl
theorem hits_cv {H : Gh} {A : Option Addr} {c m : Nat} (l : List (Sv Int)) (hl : GRow H A c encS 1 l) (hgs : GSets H encI 1 l) (hm : m = l.length) {AI : Option Addr} {cI mI : Nat} (L : List Int) (hI : GRow H AI cI encI 1 L) (hmI : mI = L.length) : Cv Tryz.prog 43 [.slice AI mI cI, .slice A m c] H fun u_ => u_ = .bool (BS.hitsB L (svs l)) := by
 have hbl : l.length ≤ 9223372036854775807 := Nat.le_trans hl.1 hl.2.1;refine cv_of Tryz.func43 rfl Tryz.ntmps43 rfl fun w0 hw => ?_;refine c_seq<|c_region ?_;refine lbx ([.slice AI mI cI]) (fun m1 hm2 => ?_);refine la ?_;refine l_end ?_;refine k_fm 0 (fun H3 le4 hg5 => ?_);refine x_next<|c_seq<|c_seq<|c_region ?_;refine lm ?_;refine llen ?_;refine lm ?_;refine l_end<|x_next<|c_block ?_;refine c_loop (ι := Nat) (fun i => [(2, true, .pointer (some ⟨m1, 0, none⟩)), (7, true, .slice A m c), (8, true, .int .i64 (m : Int)), (9, true, .int .i64 ((i : Nat) : Int))]) (fun i => []) (fun i => []) (fun _ => H3) (fun i => i ≤ l.length ∧ ∀ j, j < i → ((l.getD j zS).l.any fun x => decide (x ∈ L)) = true) (fun i => l.length - i) 0 (⟨Nat.zero_le _, fun j h => by omega⟩) rfl (sub_cons rfl (sub_cons rfl (sub_cons rfl (sub_cons rfl (sub_nil _))))) (rfl) (rfl) ?_
 rintro i hi6
 show RK (Code.wp _ _ _) _ _ _ _ [(2, true, .pointer (some ⟨m1, 0, none⟩)), (7, true, .slice A m c), (8, true, .int .i64 (m : Int)), (9, true, .int .i64 ((i : Nat) : Int))] [] [];replace hi6 : i ≤ l.length ∧ ∀ j, j < i → ((l.getD j zS).l.any fun x => decide (x ∈ L)) = true := hi6;obtain ⟨hi1, hi2⟩ := hi6;refine c_seq<|c_region ?_;refine llss ?_;refine l_end<|x_next<|c_seq ?_;refine c_if (by rfl) (fun h7 => ?_) (fun h7 => ?_)
 ·have h7' := h7;(try simp only [bps] at h7);refine c_skip ?_;refine x_next<|c_seq<|c_block<|c_seq<|c_region ?_;refine lix (hl.le le4) zS i (fun p8 o9 g10 => ?_) (hm := hm);refine lg 0 g10 ?_;refine la ?_;refine l_end<|x_next<|c_seq<|c_region ?_;refine lm ?_;refine l_v (p_mkf (us := []) (ws := [.pointer (some ⟨m1, 0, none⟩)]) .no (by trivial) ⟨(by exact e1 rfl), trivial⟩) ?_;refine lcl (containsFI_cv (l.getD i zS).l ((gs_at hgs (i) zS (by omega)).le le4) rfl [.pointer (some ⟨m1, 0, none⟩)] (fun x => decide (x ∈ L)) (fun x _ le_ => hits1_cv x L ((hI.le le4).le le_) hmI _ (GAt.le (gat_of hg5) le_))) ?_;refine lnot ?_;refine l_end<|x_next ?_;refine c_if (by rfl) (fun h11 => ?_) (fun h11 => ?_)
  ·have h11' := h11;(try simp only [bps] at h11);refine c_seq<|c_region ?_;refine la ?_;refine l_end<|x_next ?_;refine c_ret ?_;refine x_br ?_;refine x_tr ?_;refine x_tr ?_;refine x_br ?_;refine x_tr ?_;refine x_ret (vs := [.bool false]) rfl ⟨rfl, trivial⟩ ?_;show Value.bool _ = .bool _;rw [hits_no (i := i) (by omega) (by simpa using h11)]
  ·have h11' := h11;(try simp only [bps] at h11);refine c_skip ?_;refine x_bn ?_;refine x_next<|c_region ?_;refine ladd ?_;refine lm ?_;refine l_end ?_;exact x_round (i + 1) (⟨by omega, fun j hj => by by_cases e : j < i; exact hi2 j e; obtain rfl : j = i := (by omega); simpa using h11⟩) (by first | omega | (dsimp only; omega)) rfl (sub_cons rfl (sub_cons rfl (sub_cons rfl (sub_int rfl (by first | rfl | omega | (simp; done)) (sub_nil _))))) (rfl) (rfl)
 ·have h7' := h7;(try simp only [bps] at h7);refine c_exit ?_;refine x_te ?_;refine x_te ?_;refine x_be ?_;refine x_next<|c_seq<|c_region ?_;refine la ?_;refine l_end<|x_next ?_;refine c_ret ?_;refine x_ret (vs := [.bool true]) rfl ⟨rfl, trivial⟩ ?_;show Value.bool _ = .bool _;rw [hits_yes (fun j hj => hi2 j (by omega))]
def GrowAt (F : List (Sv Int)) (AF : Option Addr) (cF b1 b2 ma n : Nat) : Prop := ∀ (H : Gh) (As : Option Addr) (cs mS : Nat) (S : List Int) (Aa : Option Addr) (ca : Nat) (L : List (Sv Int)), GRow H AF cF encS 1 F → GSets H encI 1 F → GAt H b1 0 [.slice AF F.length cF] → GAt H b2 0 [.func (.func 172) #[] #[.pointer (some ⟨b1, 0, none⟩), .pointer (some ⟨b2, 0, none⟩), .pointer (some ⟨ma, 0, none⟩)]] → GRow H As cs encI 1 S → mS = S.length → GSets H encI 1 L →
 BS.openN (svs F) S ≤ n → S.length + n ≤ 1000000 → L.length + (BS.growN (svs F) n S).length ≤ 1000000 → (∀ s ∈ F, s.l.length ≤ 1000000) →
 Cc Tryz.prog 172 [.slice As mS cs, .pointer (some ⟨b1, 0, none⟩), .pointer (some ⟨b2, 0, none⟩), .pointer (some ⟨ma, 0, none⟩)] H [(ma, .cells [.slice Aa L.length ca].toArray 53 (0, 0))] [LR Aa L.length ca 51 1 encS L] (fun _ : Option Addr × Nat × List (Sv Int) => .tuple #[]) (fun y => [(ma, .cells [.slice y.1 y.2.2.length y.2.1].toArray 53 (0, 0))]) (fun y => [LR y.1 y.2.2.length y.2.1 51 1 encS y.2.2]) (fun H' y => GSets H' encI 1 y.2.2 ∧ svs y.2.2 = svs L ++ BS.growN (svs F) n S)
theorem open_add {F : List (Sv Int)} {S : List Int} {i k : Nat} (hi : i < F.length) (ho : BS.openB S (F.getD i zS).l = true) (hk : k < (F.getD i zS).l.length) {n : Nat} (hn : BS.openN (svs F) S ≤ n + 1) : BS.openN (svs F) (sortI (S ++ [(F.getD i zS).l.getD k 0])) ≤ n := by
 rw [sortI_srt];have hm : (F.getD i zS).l ∈ svs F := List.mem_map_of_mem (BS.mem_getD hi);have := BS.openN_less hm ho (BS.mem_getD (z := 0) hk);omega
theorem growing_at {F : List (Sv Int)} {S : List Int} {i : Nat} (hi : i < F.length) (h0 : ∀ j, j < i → BS.openB S ((svs F).getD j []) = false) (ho : BS.openB S (F.getD i zS).l = true) (n : Nat) : BS.growN (svs F) (n + 1) S = (F.getD i zS).l.flatMap fun x => BS.growN (svs F) n (sortI (S ++ [x])) := by
 have := BS.growN_some (n := n) (BS.find_open (F := svs F) (s := S) (i := i) (by rw [List.length_map]; exact hi) h0 (by rw [svl_getD]; exact ho));rw [svl_getD] at this;simp only [sortI_srt];exact this
theorem grow_end {F : List (Sv Int)} {S : List Int} (h0 : ∀ j, j < F.length → BS.openB S ((svs F).getD j []) = false) (n : Nat) : BS.growN (svs F) n S = [S] := BS.growN_none fun s hs => by
 obtain ⟨j, hj, rfl⟩ := List.mem_iff_getElem.1 hs;have := h0 j (by rw [List.length_map] at hj; exact hj)
 rwa [List.getD_eq_getElem?_getD, List.getElem?_eq_getElem hj] at this
theorem grow_step (F : List (Sv Int)) (AF : Option Addr) (cF b1 b2 ma n : Nat) (ih : ∀ n', n' < n → GrowAt F AF cF b1 b2 ma n') : GrowAt F AF cF b1 b2 ma n := by
 intro H As cs mS S Aa ca L hF hFs hb1 hb2 hS hmS hLs hop hSn hbd hFl;subst hmS;have hbF : F.length ≤ 9223372036854775807 := Nat.le_trans hF.1 hF.2.1;refine cc_of Tryz.func172 rfl Tryz.ntmps172 rfl fun w0 hw => ?_;refine c_scope ?_;refine c_seq ?_;refine c_label ?_;refine x_next<|c_seq<|c_seq<|c_region ?_;refine lg 0 hb1 ?_;refine llen ?_;refine lm ?_;refine l_end<|x_next<|c_block ?_;refine c_loop (ι := Nat) (fun i => [(0, true, .slice As S.length cs), (2, true, .pointer (some ⟨b2, 0, none⟩)), (3, true, .pointer (some ⟨ma, 0, none⟩)), (12, true, .slice AF F.length cF), (13, true, .int .i64 (F.length : Int)), (14, true, .int .i64 ((i : Nat) : Int))]) (fun i => [(ma, .cells ([.slice Aa L.length ca]).toArray 53 (0, 0))]) (fun i => [LR Aa L.length ca 51 1 (encS (α := Int)) L]) (fun _ => H) (fun i => i ≤ F.length ∧ ∀ j, j < i → BS.openB S ((svs F).getD j []) = false) (fun i => F.length - i) 0 (⟨Nat.zero_le _, fun j h => by omega⟩) rfl (sub_cons rfl (sub_cons rfl (sub_cons rfl (sub_cons rfl (sub_cons rfl (sub_cons rfl (sub_nil _))))))) (rfl) (rfl) ?_
 rintro i hi1
 show RK (Code.wp _ _ _) _ _ _ _ [(0, true, .slice As S.length cs), (2, true, .pointer (some ⟨b2, 0, none⟩)), (3, true, .pointer (some ⟨ma, 0, none⟩)), (12, true, .slice AF F.length cF), (13, true, .int .i64 (F.length : Int)), (14, true, .int .i64 ((i : Nat) : Int))] [(ma, .cells ([.slice Aa L.length ca]).toArray 53 (0, 0))] [LR Aa L.length ca 51 1 (encS (α := Int)) L];replace hi1 : i ≤ F.length ∧ ∀ j, j < i → BS.openB S ((svs F).getD j []) = false := hi1;obtain ⟨hi1, hi2⟩ := hi1;have hFi : i < F.length → (F.getD i zS).l.length ≤ 1000000 := fun h => hFl _ (BS.mem_getD h);refine c_seq<|c_region ?_;refine llss ?_;refine l_end<|x_next<|c_seq ?_;refine c_if (by rfl) (fun h2 => ?_) (fun h2 => ?_)
 ·have h2' := h2;(try simp only [bps] at h2);refine c_skip ?_;refine x_next<|c_seq<|c_block<|c_seq<|c_region ?_;refine lix hF zS i (fun p3 o4 g5 => ?_);refine lg 0 g5 ?_;refine la ?_;refine l_end<|x_next<|c_seq<|c_seq<|c_region ?_;refine lm ?_;refine llen ?_;refine lm ?_;refine l_end<|x_next<|c_block ?_;refine c_loop (ι := Nat) (fun k => [(0, true, .slice As S.length cs), (2, true, .pointer (some ⟨b2, 0, none⟩)), (3, true, .pointer (some ⟨ma, 0, none⟩)), (6, true, .slice (F.getD i zS).A (F.getD i zS).l.length (F.getD i zS).c), (12, true, .slice AF F.length cF), (13, true, .int .i64 (F.length : Int)), (14, true, .int .i64 ((i : Nat) : Int)), (18, true, .slice (F.getD i zS).A (F.getD i zS).l.length (F.getD i zS).c), (19, true, .int .i64 ((F.getD i zS).l.length : Int)), (20, true, .int .i64 ((k : Nat) : Int))]) (fun k => [(ma, .cells ([.slice Aa L.length ca]).toArray 53 (0, 0))]) (fun k => [LR Aa L.length ca 51 1 (encS (α := Int)) L]) (fun _ => H) (fun k => k ≤ (F.getD i zS).l.length ∧ ∀ j, j < k → (F.getD i zS).l.getD j 0 ∉ S) (fun k => (F.getD i zS).l.length - k) 0 (⟨Nat.zero_le _, fun j h => by omega⟩) rfl (sub_cons rfl (sub_cons rfl (sub_cons rfl (sub_cons rfl (sub_cons rfl (sub_cons rfl (sub_cons rfl (sub_cons rfl (sub_cons rfl (sub_cons rfl (sub_nil _))))))))))) (rfl) (rfl) ?_
  rintro k hi6
  show RK (Code.wp _ _ _) _ _ _ _ [(0, true, .slice As S.length cs), (2, true, .pointer (some ⟨b2, 0, none⟩)), (3, true, .pointer (some ⟨ma, 0, none⟩)), (6, true, .slice (F.getD i zS).A (F.getD i zS).l.length (F.getD i zS).c), (12, true, .slice AF F.length cF), (13, true, .int .i64 (F.length : Int)), (14, true, .int .i64 ((i : Nat) : Int)), (18, true, .slice (F.getD i zS).A (F.getD i zS).l.length (F.getD i zS).c), (19, true, .int .i64 ((F.getD i zS).l.length : Int)), (20, true, .int .i64 ((k : Nat) : Int))] [(ma, .cells ([.slice Aa L.length ca]).toArray 53 (0, 0))] [LR Aa L.length ca 51 1 (encS (α := Int)) L];replace hi6 : k ≤ (F.getD i zS).l.length ∧ ∀ j, j < k → (F.getD i zS).l.getD j 0 ∉ S := hi6;obtain ⟨hk1, hk2⟩ := hi6;refine c_seq<|c_region ?_;refine llss ?_;refine l_end<|x_next<|c_seq ?_;refine c_if (by rfl) (fun h7 => ?_) (fun h7 => ?_)
  ·have h7' := h7;(try simp only [bps] at h7);refine c_skip ?_;refine x_next<|c_seq<|c_block<|c_seq<|c_region ?_;refine lix (gs_at hFs (i) zS (by omega)) 0 k (fun p8 o9 g10 => ?_);refine lg 0 g10 ?_;refine la ?_;refine l_end<|x_next<|c_seq<|c_region ?_;refine lm ?_;refine lm ?_;refine lcl (contains_cv S ((F.getD i zS).l.getD k 0) hS rfl) ?_;refine l_end<|x_next ?_;refine c_if (by rfl) (fun h11 => ?_) (fun h11 => ?_)
   ·have h11' := h11;(try simp only [bps] at h11);refine c_exit ?_;refine x_bo rfl ?_;refine x_te ?_;refine x_te ?_;refine x_bo rfl ?_;refine x_te ?_;refine x_be ?_;refine x_next<|c_region ?_;refine ladd ?_;refine lm ?_;refine l_end ?_;exact x_round (i + 1) (⟨by omega, fun j hj => by by_cases e : j < i; exact hi2 j e; obtain rfl : j = i := (by omega); rw [svl_getD]; exact BS.not_open.2 ⟨_, BS.mem_getD (z := 0) (by omega), h11⟩⟩) (by first | omega | (dsimp only; omega)) rfl (sub_cons rfl (sub_cons rfl (sub_cons rfl (sub_cons rfl (sub_cons rfl (sub_int rfl (by first | rfl | omega | (simp; done)) (sub_nil _))))))) (rfl) (rfl)
   ·have h11' := h11;(try simp only [bps] at h11);refine c_skip ?_;refine x_bn ?_;refine x_next<|c_region ?_;refine ladd ?_;refine lm ?_;refine l_end ?_;exact x_round (k + 1) (⟨by omega, fun j hj => by by_cases e : j < k; exact hk2 j e; obtain rfl : j = k := (by omega); exact h11⟩) (by first | omega | (dsimp only; omega)) rfl (sub_cons rfl (sub_cons rfl (sub_cons rfl (sub_cons rfl (sub_cons rfl (sub_cons rfl (sub_cons rfl (sub_cons rfl (sub_cons rfl (sub_int rfl (by first | rfl | omega | (simp; done)) (sub_nil _))))))))))) (rfl) (rfl)
  ·have h7' := h7;(try simp only [bps] at h7);refine c_exit ?_;refine x_te ?_;refine x_te ?_;refine x_be ?_;refine x_next<|c_seq<|c_seq<|c_region ?_;refine lm ?_;refine llen ?_;refine lm ?_;refine l_end<|x_next<|c_block ?_;obtain rfl : k = (F.getD i zS).l.length := by omega
   have ho : BS.openB S (F.getD i zS).l = true := BS.openB_iff.2 fun x hx hS => by obtain ⟨j, hj, rfl⟩ := List.mem_iff_getElem.1 hx; have h9 := hk2 j hj; rw [List.getD_eq_getElem?_getD, List.getElem?_eq_getElem hj] at h9; exact h9 hS
   obtain ⟨n, rfl⟩ : ∃ q, n = q + 1 := ⟨n - 1, by have := BS.openN_pos (F := svs F) (List.mem_map_of_mem (BS.mem_getD (by omega))) ho; omega⟩;have hge := growing_at (by omega) hi2 ho n;rw [hge] at hbd;refine c_loop (ι := Nat × Gh × Option Addr × Nat × List (Sv Int)) (fun ⟨q, Hz, A2, c2, L2⟩ => [(0, true, .slice As S.length cs), (2, true, .pointer (some ⟨b2, 0, none⟩)), (3, true, .pointer (some ⟨ma, 0, none⟩)), (12, true, .slice AF F.length cF), (13, true, .int .i64 (F.length : Int)), (14, true, .int .i64 ((i : Nat) : Int)), (28, true, .slice (F.getD i zS).A (F.getD i zS).l.length (F.getD i zS).c), (29, true, .int .i64 ((F.getD i zS).l.length : Int)), (30, true, .int .i64 ((q : Nat) : Int))]) (fun ⟨q, Hz, A2, c2, L2⟩ => [(ma, .cells ([.slice A2 L2.length c2]).toArray 53 (0, 0))]) (fun ⟨q, Hz, A2, c2, L2⟩ => [LR A2 L2.length c2 51 1 (encS (α := Int)) L2]) (fun ⟨q, Hz, A2, c2, L2⟩ => Hz) (fun ⟨q, Hz, A2, c2, L2⟩ => q ≤ (F.getD i zS).l.length ∧ Gh.Le H Hz ∧ GSets Hz encI 1 L2 ∧ svs L2 = svs L ++ ((F.getD i zS).l.take q).flatMap (fun x => BS.growN (svs F) n (sortI (S ++ [x])))) (fun ⟨q, Hz, A2, c2, L2⟩ => (F.getD i zS).l.length - q) (0, H, Aa, ca, L) (⟨Nat.zero_le _, Gh.Le.refl _, hLs, by simp⟩) rfl (sub_cons rfl (sub_cons rfl (sub_cons rfl (sub_cons rfl (sub_cons rfl (sub_cons rfl (sub_cons rfl (sub_cons rfl (sub_cons rfl (sub_nil _)))))))))) (rfl) (rfl) ?_
   rintro ⟨q, Hz, A2, c2, L2⟩ hi12
   show RK (Code.wp _ _ _) _ _ _ _ [(0, true, .slice As S.length cs), (2, true, .pointer (some ⟨b2, 0, none⟩)), (3, true, .pointer (some ⟨ma, 0, none⟩)), (12, true, .slice AF F.length cF), (13, true, .int .i64 (F.length : Int)), (14, true, .int .i64 ((i : Nat) : Int)), (28, true, .slice (F.getD i zS).A (F.getD i zS).l.length (F.getD i zS).c), (29, true, .int .i64 ((F.getD i zS).l.length : Int)), (30, true, .int .i64 ((q : Nat) : Int))] [(ma, .cells ([.slice A2 L2.length c2]).toArray 53 (0, 0))] [LR A2 L2.length c2 51 1 (encS (α := Int)) L2];replace hi12 : q ≤ (F.getD i zS).l.length ∧ Gh.Le H Hz ∧ GSets Hz encI 1 L2 ∧ svs L2 = svs L ++ ((F.getD i zS).l.take q).flatMap (fun x => BS.growN (svs F) n (sortI (S ++ [x]))) := hi12;obtain ⟨hq0, hz1, hL2, hsv⟩ := hi12;have hlv : L2.length = L.length + (((F.getD i zS).l.take q).flatMap (fun x => BS.growN (svs F) n (sortI (S ++ [x])))).length := by have e9 := congrArg List.length hsv; rw [List.length_map, List.length_append, List.length_map] at e9; exact e9
   have hbd2 : q < (F.getD i zS).l.length → L2.length + (BS.growN (svs F) n (sortI (S ++ [(F.getD i zS).l.getD q 0]))).length ≤ 1000000 := fun h => by have e8 := BS.flatMap_take_le (fun x => BS.growN (svs F) n (sortI (S ++ [x]))) (F.getD i zS).l (q + 1); rw [BS.flatMap_take_succ _ _ 0 h, List.length_append] at e8; omega
   refine c_seq<|c_region ?_;refine llss ?_;refine l_end<|x_next<|c_seq ?_;refine c_if (by rfl) (fun h13 => ?_) (fun h13 => ?_)
   ·have h13' := h13;(try simp only [bps] at h13);refine c_skip ?_;refine x_next<|c_seq<|c_block<|c_seq<|c_region ?_;refine lix ((gs_at hFs (i) zS (by omega)).le hz1) 0 q (fun p14 o15 g16 => ?_);refine lg 0 g16 ?_;refine la ?_;refine l_end<|x_next<|c_seq<|c_region ?_;refine lm ?_;refine l_x (x_callw (vs := [.slice As S.length cs]) (cloneI_cw2 S (hS.le hz1) rfl (by omega)) (fun A17 c18 => ?_) (hx := ⟨(by exact e1 rfl), trivial⟩));refine lm ?_;refine l_x (x_bs [(0, .int .i64 ((F.getD i zS).l.getD q 0))] ([.int .i64 ((F.getD i zS).l.getD q 0)]) (by kernel_rfl) (by simp [ev, eget, Nat.beq]) (k' := fun m20 hm21 => ?_));refine l_x (x_app1 0 0 [((F.getD i zS).l.getD q 0)] (fun A22 c23 => ?_));refine la ?_;refine l_end<|x_next<|c_seq<|c_region ?_;refine lm ?_;have hc24 : Cc Tryz.prog 170 [.slice A22 (S ++ [((F.getD i zS).l.getD q 0)]).length c23] Hz [] [LR A22 (S ++ [((F.getD i zS).l.getD q 0)]).length c23 3 1 encI (S ++ [((F.getD i zS).l.getD q 0)])] _ _ _ _ := sort_cc (S ++ [((F.getD i zS).l.getD q 0)]) rfl (by simp; omega)
    refine k_rf 0 ?_;refine l_x (x_callc (vs := [.slice A22 (S ++ [((F.getD i zS).l.getD q 0)]).length c23]) (M2 := [(m20, .cells ([.int .i64 ((F.getD i zS).l.getD q 0)]).toArray 3 (0, 0)), (ma, .cells ([.slice A2 L2.length c2]).toArray 53 (0, 0))]) (R2 := [LR A2 L2.length c2 51 1 (encS (α := Int)) L2]) (dst := some 40) hc24 (fun H25 y26 le27 f28 => ?_) (hx := ⟨(by exact e1 rfl), trivial⟩));obtain _ := f28;show RK _ _ _ _ _ ((40, true, .tuple #[]) :: _) [(m20, .cells ([.int .i64 ((F.getD i zS).l.getD q 0)]).toArray 3 (0, 0)), (ma, .cells ([.slice A2 L2.length c2]).toArray 53 (0, 0))] [LR A22 (S ++ [((F.getD i zS).l.getD q 0)]).length c23 3 1 encI (sortI (S ++ [((F.getD i zS).l.getD q 0)])), LR A2 L2.length c2 51 1 (encS (α := Int)) L2];refine l_end ?_;refine k_frz 0 (fun H29 le30 gr31 => ?_) (hm := (by rw [sortI_length]));refine x_next<|c_region ?_;refine lg 0 (hb2.le (Gh.Le.trans (Gh.Le.trans hz1 le27) le30)) ?_
    refine lm ?_;have hc32 : Cc Tryz.prog 172 [.slice A22 (S ++ [((F.getD i zS).l.getD q 0)]).length c23, .pointer (some ⟨b1, 0, none⟩), .pointer (some ⟨b2, 0, none⟩), .pointer (some ⟨ma, 0, none⟩)] H29 [(ma, .cells ([.slice A2 L2.length c2]).toArray 53 (0, 0))] [LR A2 L2.length c2 51 1 (encS (α := Int)) L2] _ _ _ _ := ih n (Nat.lt_succ_self n) H29 A22 c23 _ (sortI (S ++ [((F.getD i zS).l.getD q 0)])) A2 c2 L2 (hF.le (Gh.Le.trans (Gh.Le.trans hz1 le27) le30)) (gs_le hFs (Gh.Le.trans (Gh.Le.trans hz1 le27) le30)) (hb1.le (Gh.Le.trans (Gh.Le.trans hz1 le27) le30)) (hb2.le (Gh.Le.trans (Gh.Le.trans hz1 le27) le30)) gr31 (by rw [sortI_length]) (gs_le hL2 (Gh.Le.trans le27 le30)) (open_add (by omega) ho (by omega) hop) (by rw [sortI_length, List.length_append]; simp; omega) (hbd2 (by omega)) hFl;refine k_mf 1 ?_;refine k_rf 0 ?_;refine l_x (x_callfc (us := []) (ws := [.pointer (some ⟨b1, 0, none⟩), .pointer (some ⟨b2, 0, none⟩), .pointer (some ⟨ma, 0, none⟩)]) (vs := [.slice A22 (S ++ [((F.getD i zS).l.getD q 0)]).length c23]) (M2 := [(m20, .cells ([.int .i64 ((F.getD i zS).l.getD q 0)]).toArray 3 (0, 0))]) (R2 := []) (dst := some 43) hc32 rfl (fun H33 y34 le35 f36 => ?_) (hxs := ⟨(by exact e1 rfl), trivial⟩))
    obtain ⟨hq1, hq2⟩ := f36;show RK _ _ _ _ _ ((43, true, .tuple #[]) :: _) [(ma, .cells ([.slice y34.1 y34.2.2.length y34.2.1]).toArray 53 (0, 0)), (m20, .cells ([.int .i64 ((F.getD i zS).l.getD q 0)]).toArray 3 (0, 0))] [LR y34.1 y34.2.2.length y34.2.1 51 1 (encS (α := Int)) y34.2.2];refine l_end ?_;refine x_bn ?_;refine x_next<|c_region ?_;refine ladd ?_;refine lm ?_;refine l_end ?_;refine k_forget (.cons_cons _ (.cons _ .slnil)) (.refl _) ?_;exact x_round ((q + 1), H33, y34.1, y34.2.1, y34.2.2) (⟨by omega, (Gh.Le.trans (Gh.Le.trans (Gh.Le.trans hz1 le27) le30) le35), hq1, by rw [BS.flatMap_take_succ _ _ 0 (by omega), hq2, hsv, List.append_assoc]⟩) (by first | omega | (dsimp only; omega)) rfl (sub_cons rfl (sub_cons rfl (sub_cons rfl (sub_cons rfl (sub_cons rfl (sub_cons rfl (sub_cons rfl (sub_cons rfl (sub_int rfl (by first | rfl | omega | (simp; done)) (sub_nil _)))))))))) (rfl) (rfl)
   ·have h13' := h13;(try simp only [bps] at h13);refine c_exit ?_;refine x_te ?_;refine x_te ?_;refine x_be ?_;refine x_next ?_;refine c_ret ?_;refine x_br ?_;refine x_tr ?_;refine x_tr ?_;refine x_br ?_;refine x_tr ?_;refine x_scr ?_;obtain rfl : q = (F.getD i zS).l.length := by omega
    rw [List.take_length] at hsv;exact x_retc (vs := []) (A2, c2, L2) rfl trivial ⟨hL2, by rw [hge]; exact hsv⟩
 ·have h2' := h2;(try simp only [bps] at h2);refine c_exit ?_;refine x_te ?_;refine x_te ?_;refine x_be ?_;refine x_next ?_;obtain rfl : i = F.length := by omega
  have hge0 := grow_end hi2 n;rw [hge0, List.length_singleton] at hbd;refine c_region ?_;refine ll 0 ?_;refine lm ?_;refine l_x (x_bs [(0, .slice As S.length cs)] ([.slice As S.length cs]) (by kernel_rfl) (by simp [ev, eget, Nat.beq]) (k' := fun m37 hm38 => ?_));have gs41 : GSets H encI 1 (L ++ [(⟨As, cs, S⟩ : Sv Int)]) := gs_snoc hLs hS;refine l_x (x_app1 0 0 [(⟨As, cs, S⟩ : Sv Int)] (fun A39 c40 => ?_));refine lst 1 ([.slice A39 (L ++ [(⟨As, cs, S⟩ : Sv Int)]).length c40]) ([.slice A39 (L ++ [(⟨As, cs, S⟩ : Sv Int)]).length c40]) ?_;refine l_end ?_;refine x_scn ?_;refine k_forget (.cons _ (.cons_cons _ .slnil)) (.refl _) ?_;exact x_fallc (vs := []) (A39, c40, (L ++ [(⟨As, cs, S⟩ : Sv Int)])) rfl trivial ⟨gs41, by rw [hge0]; simp [svs]⟩
theorem grow_all (F : List (Sv Int)) (AF : Option Addr) (cF b1 b2 ma : Nat) : ∀ n, GrowAt F AF cF b1 b2 ma n := fun n => by
 induction n using Nat.strongRecOn with
 | _ n ih => exact grow_step F AF cF b1 b2 ma n ih
end Go.Proofs.YtoakoffdjeleoaaGreat
end
section
set_option maxRecDepth 4000
set_option maxHeartbeats 4000000
namespace Go.Proofs.YtoakoffdjeleoaaGreat
open Go.RowKit Go.Shelf
attribute [local irreducible] BS.narrow BS.lookL BS.findE BS.findR BS.volMax BS.parts BS.checkP BS.solE BS.solR BS.solveR BS.furtherR BS.onlyP BS.decideP BS.formedB BS.checkB BS.subsetsL BS.onlyB sortI BS.minimalF BS.lightL decB witR leaP BS.growN BS.openB BS.openN BS.famE BS.membersL BS.hitE BS.minX BS.hitX
theorem grow_nil0 (H : Gh) (A : Option Addr) : GRow H A 0 encI 1 [] := ⟨Nat.le_refl _, by simp, fun h => by simp at h⟩
theorem hitting_ct {H : Gh} {A : Option Addr} {c m : Nat} (l : List (Sv Int)) (hl : GRow H A c encS 1 l) (hgs : GSets H encI 1 l) (hm : m = l.length) (hn : l.length ≤ 900000) (hb : (BS.growN (svs l) l.length []).length ≤ 1000000) (hsl : ∀ s ∈ l, s.l.length ≤ 1000000) : Ct Tryz.prog 101 [.slice A m c] H fun H' v => ∃ A1 c1 M, v = .slice A1 M.length c1 ∧ GRow H' A1 c1 encS 1 M ∧ GSets H' encI 1 M ∧ svs M = BS.hitL (svs l) := by
 subst hm;refine ct_of Tryz.func101 rfl Tryz.ntmps101 rfl fun w0 hw => ?_;refine c_seq<|c_region ?_;refine lbx ([.slice A l.length c]) (fun m1 hm2 => ?_);refine la ?_;refine l_end<|x_next<|c_seq<|c_region ?_;refine lal (fun m3 hm4 => ?_);refine l_end<|x_next<|c_seq<|c_region ?_;refine lal (fun m5 hm6 => ?_);refine l_end<|x_next<|c_seq<|c_region ?_;refine l_v (p_mkf (us := []) (ws := [.pointer (some ⟨m1, 0, none⟩), .pointer (some ⟨m5, 0, none⟩), .pointer (some ⟨m3, 0, none⟩)]) .no (by trivial) ⟨(by exact e1 rfl), (by exact e1 rfl), (by exact e1 rfl), trivial⟩) ?_;refine lst 0 ([.func (.func 172) #[] #[.pointer (some ⟨m1, 0, none⟩), .pointer (some ⟨m5, 0, none⟩), .pointer (some ⟨m3, 0, none⟩)]]) ([.func (.func 172) #[] #[.pointer (some ⟨m1, 0, none⟩), .pointer (some ⟨m5, 0, none⟩), .pointer (some ⟨m3, 0, none⟩)]]) ?_;refine l_end ?_;refine k_fm 2 (fun H7 le8 hg9 => ?_);refine k_fm 0 (fun H10 le11 hg12 => ?_)
 refine k_nilrow 51 1 (encS (α := Int)) ?_;refine x_next<|c_seq<|c_region ?_;refine lg 0 (gat_of hg12) ?_;refine l_x (x_bs [] ([]) (by kernel_rfl) (by simp [ev, eget, Nat.beq]) (k' := fun m13 hm14 => ?_));have hc15 : Cc Tryz.prog 172 [.slice (some ⟨m13, 0, none⟩) 0 0, .pointer (some ⟨m1, 0, none⟩), .pointer (some ⟨m5, 0, none⟩), .pointer (some ⟨m3, 0, none⟩)] H10 [(m3, .cells ([.slice none 0 0]).toArray 53 (0, 0))] [LR none 0 0 51 1 (encS (α := Int)) []] _ _ _ _ := grow_all l A c m1 m5 m3 l.length H10 _ _ _ [] _ _ [] (hl.le (Gh.Le.trans le8 le11)) (gs_le hgs (Gh.Le.trans le8 le11)) ((gat_of hg9).le le11) (gat_of hg12) (grow_nil0 _ _) rfl gs_nil (Nat.le_trans (BS.openN_le _ _) (by rw [List.length_map]; exact Nat.le_refl _)) (by simp; omega) (by simpa using hb) hsl;refine k_mf 1 ?_;refine k_rf 0 ?_;refine l_x (x_callfc (us := []) (ws := [.pointer (some ⟨m1, 0, none⟩), .pointer (some ⟨m5, 0, none⟩), .pointer (some ⟨m3, 0, none⟩)]) (vs := [.slice (some ⟨m13, 0, none⟩) 0 0]) (M2 := [(m13, .cells ([]).toArray 3 (0, 0))]) (R2 := []) (dst := some 8) hc15 rfl (fun H16 y17 le18 f19 => ?_) (hxs := ⟨(by exact e1 rfl), trivial⟩))
 obtain ⟨hq1, hq2⟩ := f19;show RK _ _ _ _ _ ((8, true, .tuple #[]) :: _) [(m3, .cells ([.slice y17.1 y17.2.2.length y17.2.1]).toArray 53 (0, 0)), (m13, .cells ([]).toArray 3 (0, 0))] [LR y17.1 y17.2.2.length y17.2.1 51 1 (encS (α := Int)) y17.2.2];refine l_end ?_;rw [show svs ([] : List (Sv Int)) = [] from rfl, List.nil_append] at hq2;refine k_frz 0 (fun H20 le21 gr22 => ?_);have hyl : y17.2.2.length ≤ 1000000 := by have e9 := congrArg List.length hq2; rw [List.length_map] at e9; rw [e9]; exact hb
 have hys : ∀ s ∈ y17.2.2, s.l.length ≤ 1000000 := fun s hs => by have e9 : s.l ∈ svs y17.2.2 := List.mem_map_of_mem hs; rw [hq2] at e9; have := BS.growN_len _ e9; simp at this; omega
 refine x_next<|c_seq<|c_region ?_;refine ll 0 ?_;have hc33 : Ct Tryz.prog 97 [.slice y17.1 y17.2.2.length y17.2.1] H20 _ := minimal_ct y17.2.2 gr22 (gs_le hq1 le21) rfl hyl hys;refine l_x (x_call .no ?_ (fun _ => hc33) (k := fun H23 v24 le25 r26 => ?_))
 ·exact ⟨(by exact e1 rfl), trivial⟩
 obtain ⟨A27, c28, M29, rfl, hf30, hg31, hm32⟩ := r26 rfl;refine la ?_;refine l_end<|x_next ?_;refine c_ret ?_;refine x_ret (vs := [.slice A27 M29.length c28]) rfl ⟨rfl, trivial⟩ ?_;exact ⟨_, _, M29, rfl, hf30, hg31, by rw [hm32 (by rw [hq2]; exact BS.grow_sets _ (Nat.le_trans (BS.openN_le _ _) (by rw [List.length_map]; exact Nat.le_refl _))), hq2]; unfold BS.hitL; rw [List.length_map]⟩
theorem minimal_exp {H : Gh} {A : Option Addr} {c m : Nat} (l : List (Sv Int)) (hl : GRow H A c encS 1 l) (hgs : GSets H encI 1 l) (hm : m = l.length) : Ct Tryz.prog 39 [.slice A m c] H fun H' v => ∃ A1 c1 M, v = .tuple [.slice A1 M.length c1, .int .i64 (BS.famE (svs l))].toArray ∧ GRow H' A1 c1 encS 1 M ∧ GSets H' encI 1 M ∧ svs M = BS.minX (svs l) := by
 refine ct_of Tryz.func39 rfl Tryz.ntmps39 rfl fun w0 hw => ?_;refine c_seq<|c_region ?_;refine la ?_;refine la ?_;refine l_end<|x_next<|c_seq<|c_seq<|c_region ?_;refine lm ?_;refine lcl (checkF_cv l hl hgs hm) ?_;refine la ?_;refine l_end<|x_next<|c_seq<|c_region ?_;refine lm ?_;refine lneq ?_;refine l_end<|x_next ?_;refine c_if (by rfl) (fun h1 => ?_) (fun h1 => ?_)
 ·have h1' := h1;(try simp only [bps] at h1);refine c_seq<|c_region ?_;refine lm ?_;refine la ?_;refine la ?_;refine l_end<|x_next ?_;refine c_ret ?_;refine x_tr ?_;refine x_ret (vs := [.slice none 0 0, .int .i64 (BS.famE (svs l))]) rfl ⟨rfl, rfl, trivial⟩ ?_;exact ⟨none, 0, [], rfl, GRow.nil _ _ _, gs_nil, by unfold BS.minX; rw [if_neg h1]; rfl⟩
 ·have h1' := h1;(try simp only [bps] at h1);refine c_skip ?_;refine x_next<|c_seq ?_;have hc0 : BS.famE (svs l) = 0 := Decidable.not_not.1 h1;have hgd := BS.fam_good hc0;have hl80 : l.length ≤ 80 := by have e9 := hgd.len; rw [List.length_map] at e9; exact e9
  have hs64 : ∀ s ∈ l, s.l.length ≤ 64 := fun s hs => BS.set_64 (hgd.set _ (List.mem_map_of_mem hs)) (hgd.el _ (List.mem_map_of_mem hs));have hsl : ∀ s ∈ l, s.l.length ≤ 1000000 := fun s hs => Nat.le_trans (hs64 s hs) (by decide);refine c_region ?_;refine lm ?_;have hc12 : Ct Tryz.prog 97 [.slice A m c] H _ := minimal_ct l hl hgs hm (by omega) hsl;refine l_x (x_call .no ?_ (fun _ => hc12) (k := fun H2 v3 le4 r5 => ?_))
  ·exact ⟨(by exact e1 rfl), trivial⟩
  obtain ⟨A6, c7, M8, rfl, hf9, hg10, hm11⟩ := r5 rfl;refine la ?_;refine la ?_;refine l_end<|x_next ?_;refine c_ret ?_;refine x_ret (vs := [.slice A6 M8.length c7, .int .i64 0]) rfl ⟨rfl, rfl, trivial⟩ ?_;exact ⟨_, _, M8, by rw [hc0]; rfl, hf9, hg10, by unfold BS.minX; rw [if_pos hc0, hm11 hgd.set]⟩
theorem hitting_exp {H : Gh} {A : Option Addr} {c m : Nat} (l : List (Sv Int)) (hl : GRow H A c encS 1 l) (hgs : GSets H encI 1 l) (hm : m = l.length) : Ct Tryz.prog 41 [.slice A m c] H fun H' v => ∃ A1 c1 M, v = .tuple [.slice A1 M.length c1, .int .i64 (BS.hitE (svs l))].toArray ∧ GRow H' A1 c1 encS 1 M ∧ GSets H' encI 1 M ∧ svs M = BS.hitX (svs l) := by
 refine ct_of Tryz.func41 rfl Tryz.ntmps41 rfl fun w0 hw => ?_;refine c_seq<|c_region ?_;refine la ?_;refine la ?_;refine l_end<|x_next<|c_seq<|c_seq<|c_region ?_;refine lm ?_;refine lcl (checkF_cv l hl hgs hm) ?_;refine la ?_;refine l_end<|x_next<|c_seq<|c_region ?_;refine lm ?_;refine lneq ?_;refine l_end<|x_next ?_;refine c_if (by rfl) (fun h1 => ?_) (fun h1 => ?_)
 ·have h1' := h1;(try simp only [bps] at h1);refine c_seq<|c_region ?_;refine lm ?_;refine la ?_;refine la ?_;refine l_end<|x_next ?_;refine c_ret ?_;refine x_tr ?_;refine x_ret (vs := [.slice none 0 0, .int .i64 (BS.famE (svs l))]) rfl ⟨rfl, rfl, trivial⟩ ?_;exact ⟨none, 0, [], by rw [(BS.hit_bad h1).1]; rfl, GRow.nil _ _ _, gs_nil, by rw [(BS.hit_bad h1).2]; rfl⟩
 ·have h1' := h1;(try simp only [bps] at h1);refine c_skip ?_;refine x_next<|c_seq<|c_seq ?_;have hc0 : BS.famE (svs l) = 0 := Decidable.not_not.1 h1;have hgd := BS.fam_good hc0;have hl80 : l.length ≤ 80 := by have e9 := hgd.len; rw [List.length_map] at e9; exact e9
  have hs64 : ∀ s ∈ l, s.l.length ≤ 64 := fun s hs => BS.set_64 (hgd.set _ (List.mem_map_of_mem hs)) (hgd.el _ (List.mem_map_of_mem hs));have hsl : ∀ s ∈ l, s.l.length ≤ 1000000 := fun s hs => Nat.le_trans (hs64 s hs) (by decide);refine c_region ?_;refine lm ?_;refine l_x (x_callw (vs := [.slice A m c]) (members_cw l hl hgs hm (Nat.le_trans (BS.good_flat hgd) (by decide))) (fun A2 c3 => ?_) (hx := ⟨(by exact e1 rfl), trivial⟩));refine llen ?_;refine lgtr ?_;refine l_end<|x_next ?_;refine c_if (by rfl) (fun h5 => ?_) (fun h5 => ?_)
  ·have h5' := h5;(try simp only [bps] at h5);refine c_seq<|c_region ?_;refine la ?_;refine la ?_;refine l_end<|x_next ?_;refine c_ret ?_;refine x_tr ?_;refine x_ret (vs := [.slice none 0 0, .int .i64 2]) rfl ⟨rfl, rfl, trivial⟩ ?_;exact ⟨none, 0, [], by rw [(BS.hit_many hc0 (by omega)).1]; rfl, GRow.nil _ _ _, gs_nil, by rw [(BS.hit_many hc0 (by omega)).2]; rfl⟩
  ·have h5' := h5;(try simp only [bps] at h5);refine c_skip ?_;refine x_next<|c_seq<|c_region ?_;refine lm ?_;have hc16 : Ct Tryz.prog 97 [.slice A m c] H _ := minimal_ct l hl hgs hm (by omega) hsl;refine l_x (x_call .no ?_ (fun _ => hc16) (k := fun H6 v7 le8 r9 => ?_))
   ·exact ⟨(by exact e1 rfl), trivial⟩
   obtain ⟨A10, c11, M12, rfl, hf13, hg14, hm15⟩ := r9 rfl;have hmm : svs M12 = BS.minimalF (svs l) := hm15 hgd.set;have hml : M12.length ≤ 80 := by have e9 := congrArg List.length hmm; rw [List.length_map] at e9; have e8 := BS.minimalF_len (svs l); rw [List.length_map] at e8; omega
   have hms : ∀ s ∈ M12, s.l ∈ svs l := fun s hs => by have e9 : s.l ∈ svs M12 := List.mem_map_of_mem hs; rw [hmm] at e9; exact BS.minimal_sub e9
   have hmb : (BS.growN (svs M12) M12.length []).length ≤ 40320 := BS.grow_small (U := BS.membersL (svs l)) (fun t ht => by obtain ⟨s, hs, rfl⟩ := List.mem_map.1 ht; exact ⟨hgd.set _ (hms s hs), BS.part_members (hms s hs)⟩) (by omega) _;have hc27 : Ct Tryz.prog 101 [.slice A10 M12.length c11] H6 _ := hitting_ct M12 hf13 hg14 rfl (by omega) (by omega) (fun s hs => Nat.le_trans (BS.set_64 (hgd.set _ (hms s hs)) (hgd.el _ (hms s hs))) (by decide));refine l_x (x_call .no ?_ (fun _ => hc27) (k := fun H17 v18 le19 r20 => ?_))
   ·exact ⟨(by exact e1 rfl), trivial⟩
   obtain ⟨A21, c22, M23, rfl, hf24, hg25, hm26⟩ := r20 rfl;refine la ?_;refine la ?_;refine l_end<|x_next ?_;refine c_ret ?_;refine x_ret (vs := [.slice A21 M23.length c22, .int .i64 0]) rfl ⟨rfl, rfl, trivial⟩ ?_;exact ⟨_, _, M23, by rw [(BS.hit_ok hc0 (by omega)).1]; rfl, hf24, hg25, by rw [(BS.hit_ok hc0 (by omega)).2, hm26, hmm]⟩
end Go.Proofs.YtoakoffdjeleoaaGreat
end
section
namespace Go.Proofs.YtoakoffdjeleoaaGreat
open Go.RowKit Go.Shelf
variable {P : Program} {ops : Array Oper} {Q : Exit → Act → World → Prop} {K : Act → World → Prop} {C : Cx} {n : Nat} {D : List Deferred} {H : Gh} {E : Env} {M : List (Nat × Obj)} {R : List Rw} {a : Act} {w : World} {l : List Oper} {o : Oper} {d : Nat} {b : Bool} {v : Value}
section
variable {ty : TypeId} {pos : String} {af : Array Edge} {gd : Option (Nat × Bool)} {dst : Option Nat} {op : Op}
theorem x_gd (hg : Gd ops E gd true) (h : RK (SX P ops Q ⟨dst, op, ty, pos, af, none⟩ K) C n D H E M R) : RK (SX P ops Q ⟨dst, op, ty, pos, af, gd⟩ K) C n D H E M R := fun a w s => by
  have h1 := h a w s
  unfold SX at h1 ⊢
  rw [hg.want rfl s.fits]
  rw [if_pos (by simp [Region.wanted])] at h1
  rw [if_pos rfl]
  exact h1
theorem p_ixl {t e k' c m p off : Nat} {x y : Operand} {i : Int} {q : IntKind} (j : Nat) (hj : i.toNat = j) (hg : Gd ops E gd b) (hx : Ev E b x (.slice (some ⟨p, off, none⟩) m c)) (hy : Ev E b y (.int q i)) (hi : 0 ≤ i ∧ i < (m : Int)) [ht : Sl P t e] [hs : Sz P e k'] : PV P ops n E M H ⟨some d, .indexAddr t x y, ty, pos, af, gd⟩ d b (.pointer (some ⟨p, off + j * k', none⟩)) :=
  ⟨rfl, fun _ hf => hg.want rfl hf, fun hb a w hf _ _ => by
    subst hj
    simp only [execOp, hf.ev hx hb, hf.ev hy hb, Sem.run_bind, index_run ht.und hs.run hi.1 hi.2 w, Result.andThen_ok, Sem.run_pure]⟩
end
theorem grow_blk {α : Type} {g k T : Nat} {fr : Nat × Nat} {enc : α → List Value} (L : List α) (h : H g = some (.cells (L.flatMap enc).toArray T fr)) (hk : ∀ x, (enc x).length = k) (hn : L.length ≤ 9223372036854775807 := by decide) : GRow H (some ⟨g, 0, none⟩) L.length enc k L :=
  ⟨Nat.le_refl _, hn, fun _ => ⟨g, 0, _, T, fr, rfl, h, fun i x hx j u hu => by
    have hj : j < k := by rw [← hk x]; exact (List.getElem?_eq_some_iff.1 hu).1
    have hi := (List.getElem?_eq_some_iff.1 hx).1
    have := flat_at enc k hk L x hi hj
    rw [Nat.zero_add, List.getElem?_toArray, this, List.getD_eq_getElem?_getD, hx]
    exact hu⟩⟩
theorem k_mark (h : ∀ (w1 : World) (H1 : Gh), (∀ q ∈ M, H1 q.1 = some q.2) → (∀ q ∈ M, w1.heap[q.1]? = some q.2) → (∀ q ∈ M, C.w0.heap.size ≤ q.1 ∨ q.1 ∈ C.S) → (M.map (·.1)).Nodup → Kept C.S C.w0 w1 → RK K ⟨w1, [], H1⟩ n D H1 E [] []) : RK K C n D H E M R := fun a w s => by
  let H1 : Gh := fun b => (M.find? fun q => q.1 == b).map (·.2)
  have key : ∀ b o, H1 b = some o → w.heap[b]? = some o := fun b o hb => by
    simp only [H1] at hb
    obtain ⟨q, hq, rfl⟩ := Option.map_eq_some_iff.1 hb
    have h1 := List.mem_of_find?_eq_some hq
    have h2 := List.find?_some hq
    have h3 : q.1 = b := by simpa using h2
    subst h3
    exact s.mem q h1
  have tell : ∀ q ∈ M, H1 q.1 = some q.2 := fun q hq => by
    simp only [H1]
    cases e : M.find? (fun p => p.1 == q.1) with
    | none => exact absurd (List.find?_eq_none.1 e q hq) (by simp)
    | some p =>
      have h1 := List.mem_of_find?_eq_some e
      have h2 : p.1 = q.1 := by simpa using List.find?_some e
      have := s.mem p h1
      rw [h2, s.mem q hq] at this
      simpa using this.symm
  exact h w H1 tell s.mem s.own s.nodup s.kept a w ⟨s.fits, s.defs, Kept.refl _ _, by simp, by simp, by simp, fun b o hb => ⟨o, key b o hb, .inl rfl⟩, by simp, Gh.Le.refl _, Gh.NewS.refl _ _ _, by simp, by simp, by simp, by simp, List.Pairwise.nil⟩
theorem k_back {w1 : World} {H1 Hn : Gh} {M' : List (Nat × Obj)} (hm : ∀ q ∈ M, w1.heap[q.1]? = some q.2) (ho : ∀ q ∈ M, C.w0.heap.size ≤ q.1 ∨ q.1 ∈ C.S) (hnd : (M.map (·.1)).Nodup) (hk : Kept C.S C.w0 w1) (h0 : ∀ b, C.H0 b = none) (h1 : ∀ b, Hn b = none) (h : RK K C n D Hn E (M ++ M') []) : RK K ⟨w1, [], H1⟩ n D H E M' R := fun a w s => by
  have lt : ∀ q ∈ M, q.1 < w1.heap.size := fun q hq => (Array.getElem?_eq_some_iff.1 (hm q hq)).1
  have ge : ∀ q ∈ M', w1.heap.size ≤ q.1 := fun q hq => by
    rcases s.own q hq with h2 | h2
    · exact h2
    · cases h2
  refine h a w ⟨s.fits, s.defs, hk.trans (s.kept.mono (by simp)), fun q hq => ?_, fun q hq => ?_, ?_, fun b o hb => (by rw [h1] at hb; cases hb), fun q _ => h1 _, fun b o hb => (by rw [h0] at hb; cases hb), fun b hb => absurd (h1 b) hb, by simp, by simp, by simp, by simp, List.Pairwise.nil⟩
  · rcases List.mem_append.1 hq with hq | hq
    · rw [s.kept.block _ (lt q hq) (by simp)]; exact hm q hq
    · exact s.mem q hq
  · rcases List.mem_append.1 hq with hq | hq
    · exact ho q hq
    · exact .inl (Nat.le_trans hk.size (ge q hq))
  · rw [List.map_append, List.nodup_append]
    refine ⟨hnd, s.nodup, fun x hx y hy e => ?_⟩
    obtain ⟨q, hq, rfl⟩ := List.mem_map.1 hx
    obtain ⟨p, hp, rfl⟩ := List.mem_map.1 hy
    have := lt q hq; have := ge p hp
    omega
abbrev emptyGh : Gh := fun _ => none
theorem cv_any {f : FuncId} {args : List Value} {Rs : Value → Prop} (h : Cv P f args emptyGh Rs) : Cv P f args H Rs := fun w _ => h w (fun b o hb => by cases hb)
end Go.Proofs.YtoakoffdjeleoaaGreat
end
section
set_option maxRecDepth 4000
set_option maxHeartbeats 4000000
namespace Go.Proofs.YtoakoffdjeleoaaGreat
open Go.RowKit Go.Shelf
attribute [local irreducible] BS.narrow BS.lookL BS.findE BS.findR BS.volMax BS.parts BS.checkP BS.solE BS.solR BS.solveR BS.furtherR BS.onlyP BS.decideP BS.formedB BS.checkB BS.subsetsL BS.onlyB sortI BS.minimalF BS.lightL decB witR leaP BS.growN BS.openB BS.openN BS.famE BS.membersL BS.hitE BS.minX BS.hitX
theorem same_ext {α : Type} {a b : List α} (z : α) (h : a.length = b.length) (k : ∀ j, j < a.length → a.getD j z = b.getD j z) : a = b := by
 apply List.ext_getElem h;intro i h1 h2;have := k i h1
 rwa [List.getD_eq_getElem?_getD, List.getD_eq_getElem?_getD, List.getElem?_eq_getElem h1, List.getElem?_eq_getElem h2] at this
theorem same_no {α : Type} {a b : List α} (z : α) {i : Nat} (h : ¬ a.getD i z = b.getD i z) : ¬ a = b := fun e => h (by rw [e])
theorem same_cv {H : Gh} {A B : Option Addr} {c d m k : Nat} (xs ys : List Int) (hx : GRow H A c encI 1 xs) (hy : GRow H B d encI 1 ys) (hmx : m = xs.length) (hmy : k = ys.length) : Cv Tryz.prog 48 [.slice A m c, .slice B k d] H fun u_ => u_ = .bool (decide (xs = ys)) := by
 have hb1 : xs.length ≤ 9223372036854775807 := Nat.le_trans hx.1 hx.2.1;have hb2 : ys.length ≤ 9223372036854775807 := Nat.le_trans hy.1 hy.2.1;refine cv_of Tryz.func48 rfl Tryz.ntmps48 rfl fun w0 hw => ?_;refine c_seq<|c_region ?_;refine la ?_;refine l_end<|x_next<|c_seq<|c_seq<|c_region ?_;refine lm ?_;refine llen ?_;refine lm ?_;refine llen ?_;refine lneq ?_;refine l_end<|x_next ?_;refine c_if (by rfl) (fun h1 => ?_) (fun h1 => ?_)
 ·have h1' := h1;(try simp only [bps] at h1);refine c_seq<|c_region ?_;refine la ?_;refine l_end<|x_next ?_;refine c_ret ?_;refine x_tr ?_;refine x_ret (vs := [.bool false]) rfl ⟨rfl, trivial⟩ ?_;show Value.bool _ = .bool _;rw [decide_eq_false (fun e : xs = ys => by rw [e] at hmx; omega)]
 ·have h1' := h1;(try simp only [bps] at h1);refine c_skip ?_;refine x_next<|c_seq<|c_seq<|c_region ?_;refine la ?_;refine l_end<|x_next<|c_block ?_;refine c_loop (ι := Nat) (fun i => [(0, true, .slice A m c), (1, true, .slice B k d), (5, true, .int .i64 ((i : Nat) : Int))]) (fun i => []) (fun i => []) (fun _ => H) (fun i => i ≤ xs.length ∧ ∀ j, j < i → xs.getD j 0 = ys.getD j 0) (fun i => xs.length - i) 0 (⟨Nat.zero_le _, fun j h => by omega⟩) rfl (sub_cons rfl (sub_cons rfl (sub_cons rfl (sub_nil _)))) (rfl) (rfl) ?_
  rintro i hi2
  show RK (Code.wp _ _ _) _ _ _ _ [(0, true, .slice A m c), (1, true, .slice B k d), (5, true, .int .i64 ((i : Nat) : Int))] [] [];replace hi2 : i ≤ xs.length ∧ ∀ j, j < i → xs.getD j 0 = ys.getD j 0 := hi2;obtain ⟨hi1, hi2⟩ := hi2;refine c_seq<|c_seq<|c_region ?_;refine lm ?_;refine lm ?_;refine llen ?_;refine llss ?_;refine l_end<|x_next ?_;refine c_if (by rfl) (fun h3 => ?_) (fun h3 => ?_)
  ·have h3' := h3;(try simp only [bps] at h3);refine c_skip ?_;refine x_next<|c_seq<|c_block<|c_seq ?_;refine c_draw [] H ?_;refine a_v 0 rfl [] (p_move .no (by exact e1 rfl)) inM_nil (te (Gh.Le.refl _)) ?_;refine a_v 1 rfl [] (p_move .no (by exact e1 rfl)) inM_nil (te (Gh.Le.refl _)) ?_;refine a_ix 2 rfl hx 0 i rfl .no (by exact e1 rfl) (by exact e1 rfl) (hmx) (fun _ => (by omega)) inM_nil (te (Gh.Le.refl _)) (fun p4 o5 g6 => ?_);refine a_v 3 rfl [] (p_gload 0 g6 .no (by exact e1 rfl)) inM_nil (te (Gh.Le.refl _)) ?_;refine a_v 4 rfl [] (p_move .no (by exact e1 rfl)) inM_nil (te (Gh.Le.refl _)) ?_;refine a_v 5 rfl [] (p_move .no (by exact e1 rfl)) inM_nil (te (Gh.Le.refl _)) ?_;refine a_ix 6 rfl hy 0 i rfl .no (by exact e1 rfl) (by exact e1 rfl) (hmy) (fun _ => (by omega)) inM_nil (te (Gh.Le.refl _)) (fun p7 o8 g9 => ?_);refine a_v 7 rfl [] (p_gload 0 g9 .no (by exact e1 rfl)) inM_nil (te (Gh.Le.refl _)) ?_
   refine a_v 8 rfl [] (p_bin .no (by exact e1 rfl) (by exact e1 rfl) (fun _ => r_neq _ _ _ _)) inM_nil (te (Gh.Le.refl _)) ?_;refine a_end ?_;refine x_next ?_;refine c_if (by rfl) (fun h10 => ?_) (fun h10 => ?_)
   ·have h10' := h10;(try simp only [bps] at h10);refine c_seq<|c_region ?_;refine la ?_;refine l_end<|x_next ?_;refine c_ret ?_;refine x_br ?_;refine x_tr ?_;refine x_tr ?_;refine x_br ?_;refine x_tr ?_;refine x_ret (vs := [.bool false]) rfl ⟨rfl, trivial⟩ ?_;show Value.bool _ = .bool _;rw [decide_eq_false (same_no 0 (i := i) h10)]
   ·have h10' := h10;(try simp only [bps] at h10);refine c_skip ?_;refine x_bn ?_;refine x_next<|c_region ?_;refine lm ?_;refine ladd ?_;refine la ?_;refine l_end ?_;exact x_round (i + 1) (⟨by omega, fun j hj => by by_cases e : j < i; exact hi2 j e; obtain rfl : j = i := (by omega); exact Decidable.not_not.1 h10⟩) (by first | omega | (dsimp only; omega)) rfl (sub_cons rfl (sub_cons rfl (sub_int rfl (by first | rfl | omega | (simp; done)) (sub_nil _)))) (rfl) (rfl)
  ·have h3' := h3;(try simp only [bps] at h3);refine c_exit ?_;refine x_te ?_;refine x_te ?_;refine x_be ?_;refine x_next<|c_seq<|c_region ?_;refine la ?_;refine l_end<|x_next ?_;refine c_ret ?_;refine x_ret (vs := [.bool true]) rfl ⟨rfl, trivial⟩ ?_;show Value.bool _ = .bool _;rw [decide_eq_true (same_ext 0 (by omega) (fun j hj => hi2 j (by omega)))]
theorem sameSets_cv {H : Gh} {A B : Option Addr} {c d m k : Nat} (xs ys : List (Sv Int)) (hx : GRow H A c encS 1 xs) (hxs : GSets H encI 1 xs) (hy : GRow H B d encS 1 ys) (hys : GSets H encI 1 ys) (hmx : m = xs.length) (hmy : k = ys.length) : Cv Tryz.prog 33 [.slice A m c, .slice B k d] H fun u_ => u_ = .bool (decide (svs xs = svs ys)) := by
 have hb1 : xs.length ≤ 9223372036854775807 := Nat.le_trans hx.1 hx.2.1;have hb2 : ys.length ≤ 9223372036854775807 := Nat.le_trans hy.1 hy.2.1;refine cv_of Tryz.func33 rfl Tryz.ntmps33 rfl fun w0 hw => ?_;refine c_seq<|c_region ?_;refine la ?_;refine l_end<|x_next<|c_seq<|c_seq<|c_region ?_;refine lm ?_;refine llen ?_;refine lm ?_;refine llen ?_;refine lneq ?_;refine l_end<|x_next ?_;refine c_if (by rfl) (fun h1 => ?_) (fun h1 => ?_)
 ·have h1' := h1;(try simp only [bps] at h1);refine c_seq<|c_region ?_;refine la ?_;refine l_end<|x_next ?_;refine c_ret ?_;refine x_tr ?_;refine x_ret (vs := [.bool false]) rfl ⟨rfl, trivial⟩ ?_;show Value.bool _ = .bool _;rw [decide_eq_false (fun e : svs xs = svs ys => by have e9 := congrArg List.length e; rw [List.length_map, List.length_map] at e9; omega)]
 ·have h1' := h1;(try simp only [bps] at h1);refine c_skip ?_;refine x_next<|c_seq<|c_seq<|c_region ?_;refine la ?_;refine l_end<|x_next<|c_block ?_;refine c_loop (ι := Nat) (fun i => [(0, true, .slice A m c), (1, true, .slice B k d), (5, true, .int .i64 ((i : Nat) : Int))]) (fun i => []) (fun i => []) (fun _ => H) (fun i => i ≤ xs.length ∧ ∀ j, j < i → (svs xs).getD j [] = (svs ys).getD j []) (fun i => xs.length - i) 0 (⟨Nat.zero_le _, fun j h => by omega⟩) rfl (sub_cons rfl (sub_cons rfl (sub_cons rfl (sub_nil _)))) (rfl) (rfl) ?_
  rintro i hi2
  show RK (Code.wp _ _ _) _ _ _ _ [(0, true, .slice A m c), (1, true, .slice B k d), (5, true, .int .i64 ((i : Nat) : Int))] [] [];replace hi2 : i ≤ xs.length ∧ ∀ j, j < i → (svs xs).getD j [] = (svs ys).getD j [] := hi2;obtain ⟨hi1, hi2⟩ := hi2;refine c_seq<|c_seq<|c_region ?_;refine lm ?_;refine lm ?_;refine llen ?_;refine llss ?_;refine l_end<|x_next ?_;refine c_if (by rfl) (fun h3 => ?_) (fun h3 => ?_)
  ·have h3' := h3;(try simp only [bps] at h3);refine c_skip ?_;refine x_next<|c_seq<|c_block<|c_seq ?_;refine c_draw [] H ?_;refine a_v 0 rfl [] (p_move .no (by exact e1 rfl)) inM_nil (te (Gh.Le.refl _)) ?_;refine a_v 1 rfl [] (p_move .no (by exact e1 rfl)) inM_nil (te (Gh.Le.refl _)) ?_;refine a_ix 2 rfl hx zS i rfl .no (by exact e1 rfl) (by exact e1 rfl) (hmx) (fun _ => (by omega)) inM_nil (te (Gh.Le.refl _)) (fun p4 o5 g6 => ?_);refine a_v 3 rfl [] (p_gload 0 g6 .no (by exact e1 rfl)) inM_nil (te (Gh.Le.refl _)) ?_;refine a_v 4 rfl [] (p_move .no (by exact e1 rfl)) inM_nil (te (Gh.Le.refl _)) ?_;refine a_v 5 rfl [] (p_move .no (by exact e1 rfl)) inM_nil (te (Gh.Le.refl _)) ?_;refine a_ix 6 rfl hy zS i rfl .no (by exact e1 rfl) (by exact e1 rfl) (hmy) (fun _ => (by omega)) inM_nil (te (Gh.Le.refl _)) (fun p7 o8 g9 => ?_);refine a_v 7 rfl [] (p_gload 0 g9 .no (by exact e1 rfl)) inM_nil (te (Gh.Le.refl _)) ?_
   refine a_one 8 rfl (x_calle (vs := [.slice (xs.getD i zS).A (xs.getD i zS).l.length (xs.getD i zS).c, .slice (ys.getD i zS).A (ys.getD i zS).l.length (ys.getD i zS).c]) .no ⟨(by exact e1 rfl), (by exact e1 rfl), trivial⟩ (fun _ => same_cv (xs.getD i zS).l (ys.getD i zS).l (gs_at hxs (i) zS (by omega)) (gs_at hys (i) zS (by omega)) rfl rfl) (k := ?_));refine a_in inM_nil (te (Gh.Le.refl _)) ?_;refine a_v 9 rfl [] (p_assign .no (by exact e1 rfl)) inM_nil (te (Gh.Le.refl _)) ?_;refine a_end ?_;refine x_next<|c_seq<|c_region ?_;refine lm ?_;refine lnot ?_;refine l_end<|x_next ?_;refine c_if (by rfl) (fun h10 => ?_) (fun h10 => ?_)
   ·have h10' := h10;(try simp only [bps] at h10);refine c_seq<|c_region ?_;refine la ?_;refine l_end<|x_next ?_;refine c_ret ?_;refine x_br ?_;refine x_tr ?_;refine x_tr ?_;refine x_br ?_;refine x_tr ?_;refine x_ret (vs := [.bool false]) rfl ⟨rfl, trivial⟩ ?_;show Value.bool _ = .bool _;rw [decide_eq_false (same_no [] (i := i) (by rw [svl_getD, svl_getD]; simpa using h10))]
   ·have h10' := h10;(try simp only [bps] at h10);refine c_skip ?_;refine x_bn ?_;refine x_next<|c_region ?_;refine lm ?_;refine ladd ?_;refine la ?_;refine l_end ?_;exact x_round (i + 1) (⟨by omega, fun j hj => by by_cases e : j < i; exact hi2 j e; obtain rfl : j = i := (by omega); rw [svl_getD, svl_getD]; simpa using h10⟩) (by first | omega | (dsimp only; omega)) rfl (sub_cons rfl (sub_cons rfl (sub_int rfl (by first | rfl | omega | (simp; done)) (sub_nil _)))) (rfl) (rfl)
  ·have h3' := h3;(try simp only [bps] at h3);refine c_exit ?_;refine x_te ?_;refine x_te ?_;refine x_be ?_;refine x_next<|c_seq<|c_region ?_;refine la ?_;refine l_end<|x_next ?_;refine c_ret ?_;refine x_ret (vs := [.bool true]) rfl ⟨rfl, trivial⟩ ?_;show Value.bool _ = .bool _;rw [decide_eq_true (same_ext [] (by rw [List.length_map, List.length_map]; omega) (fun j hj => hi2 j (by rw [List.length_map] at hj; omega)))]
def eastF (id lo hi : Int) : BS.Fc := ⟨id, 5, false, 0, 1, 0, ⟨lo, hi⟩, 0⟩
theorem eastL_cv {H : Gh} (id lo hi : Int) : Cv Tryz.prog 72 [.int .i64 id, .int .i64 lo, .int .i64 hi] H fun u_ => u_ = .agg (encFc (eastF id lo hi)).toArray := by
 refine cv_of Tryz.func72 rfl Tryz.ntmps72 rfl fun w0 hw => ?_;refine c_seq<|c_region ?_;refine lal (fun m1 hm2 => ?_);refine l_end<|x_next<|c_seq<|c_region ?_;refine lm ?_;refine lm ?_;refine lm ?_;refine lbd (v := .agg (encSp ⟨lo, hi⟩).toArray) [(0, .int .i64 lo), (1, .int .i64 hi)] ?_ (fun _ => by kernel_rfl) (by simp [ev, eget, Nat.beq]);refine lbd (v := .agg (encFc ⟨id, 5, false, 0, 1, 0, ⟨lo, hi⟩, 0⟩).toArray) [(0, .int .i64 id), (1, .int .i64 5), (3, .int .i64 0), (4, .int .i64 1), (6, .agg (encSp ⟨lo, hi⟩).toArray)] ?_ (fun _ => by kernel_rfl) (by simp [ev, eget, Nat.beq]);refine lst 0 (encFc ⟨id, 5, false, 0, 1, 0, ⟨lo, hi⟩, 0⟩) (encFc ⟨id, 5, false, 0, 1, 0, ⟨lo, hi⟩, 0⟩) ?_;refine l_end<|x_next ?_;refine c_ret ?_;refine x_ret (vs := [.agg (encFc ⟨id, 5, false, 0, 1, 0, ⟨lo, hi⟩, 0⟩).toArray]) rfl ⟨rv_cell 0 (encFc ⟨id, 5, false, 0, 1, 0, ⟨lo, hi⟩, 0⟩), trivial⟩ ?_;rfl
end Go.Proofs.YtoakoffdjeleoaaGreat
end
section
namespace Go.Proofs.YtoakoffdjeleoaaGreat
open Go.RowKit
abbrev exW : List BS.Wi := [⟨1, 8, 0⟩, ⟨2, 0, 0⟩, ⟨3, 0, 2⟩]
abbrev exA (w : Int) : List BS.Ac := [⟨11, 1⟩, ⟨12, 2⟩, ⟨13, w⟩]
abbrev exL : List BS.Bx := [⟨⟨0, 0⟩, ⟨0, 0⟩⟩, ⟨⟨0, 9⟩, ⟨0, 0⟩⟩]
abbrev exF : List BS.Fc := [⟨11, 5, false, 0, 1, 0, ⟨3, 5⟩, 0⟩, ⟨12, 5, false, 0, 1, 0, ⟨5, 7⟩, 0⟩, ⟨13, 5, false, 0, 1, 0, ⟨7, 9⟩, 0⟩]
abbrev exB (w : Int) : BS.Bn := ⟨exW, exA w, ⟨exL, exF⟩⟩
theorem ex_ids (w : Int) : idsB (exB w) = [11, 12, 13] := List.mergeSort_of_pairwise (by simp [BS.aIds])
theorem ex_lim (w : Int) (h : w = 3 ∨ w = 1) : ¬ limitsB (exB w) := by
  rintro ⟨s, h1, h2⟩
  rw [ex_ids] at h1
  have e : BS.onlyB (exB w) s = BS.onlyB (exB 3) s := rfl
  unfold limitB at h2
  rw [e] at h2
  have : ∀ s ∈ BS.subsetsL [11, 12, 13], ¬ BS.solveR (BS.onlyB (exB 3) s) = 2 := by decide +kernel
  exact this s h1 h2
theorem ex_none (w : Int) : noneB (exB w) = [[11, 13], [11, 12, 13]] := by
  have : (BS.subsetsL [11, 12, 13]).filter (fun s => !(agreesB (exB 3) s)) = [[11, 13], [11, 12, 13]] := by decide +kernel
  unfold noneB
  rw [ex_ids]
  exact this
theorem ex_back (w : Int) : backB (exB w) = [[11], [11, 12], [13], [11, 13], [12, 13], [11, 12, 13]] := by
  have : (BS.subsetsL [11, 12, 13]).filter (fun s => agreesB (exB 3) ([11, 12, 13].filter fun z_ => !(decide (z_ ∈ s)))) = [[11], [11, 12], [13], [11, 13], [12, 13], [11, 12, 13]] := by decide +kernel
  unfold backB
  rw [ex_ids]
  exact this
theorem ex_check3 : BS.checkB (exB 3) = 0 := by decide +kernel
theorem ex_check1 : BS.checkB (exB 1) = 0 := by decide +kernel
theorem ex_con3 : conR (exB 3) = 0 ∧ conL (exB 3) = [[11, 13]] := by
  obtain ⟨h1, h2⟩ := con_ok ex_check3 (ex_lim 3 (.inl rfl))
  refine ⟨h1, ?_⟩
  rw [h2, ex_none]
  decide +kernel
theorem ex_wit3 : witR (exB 3) = 0 ∧ leaP (exB 3) = ([[13]], 250000) := by
  obtain ⟨h1, _, h2⟩ := wit_ok ex_check3 (ex_lim 3 (.inl rfl)) (by rw [ex_back]; simp)
  refine ⟨h1, ?_⟩
  rw [h2, ex_back]
  decide +kernel
theorem ex_wit1 : witR (exB 1) = 0 ∧ leaP (exB 1) = ([[11], [13]], 900000) := by
  obtain ⟨h1, _, h2⟩ := wit_ok ex_check1 (ex_lim 1 (.inr rfl)) (by rw [ex_back]; simp)
  refine ⟨h1, ?_⟩
  rw [h2, ex_back]
  decide +kernel
theorem ex_jug3a : jugR (exB 3) ⟨0, 5, false, 0, 1, 0, ⟨5, 5⟩, 0⟩ = (⟨2, true, false⟩, 0) := by
  have h : ∀ s, decB (exB 3) ⟨0, 5, false, 0, 1, 0, ⟨5, 5⟩, 0⟩ s = BS.decideP (BS.onlyB (exB 3) ([11, 12, 13].filter fun z_ => !(decide (z_ ∈ s)))) ⟨0, 5, false, 0, 1, 0, ⟨5, 5⟩, 0⟩ := fun s => by unfold decB; rw [ex_ids]
  have e := funext h
  unfold jugR
  rw [ex_wit3.1, ex_wit3.2, e]
  decide +kernel
theorem ex_jug3b : jugR (exB 3) ⟨0, 5, false, 0, 1, 0, ⟨7, 9⟩, 0⟩ = (⟨1, false, true⟩, 0) := by
  have h : ∀ s, decB (exB 3) ⟨0, 5, false, 0, 1, 0, ⟨7, 9⟩, 0⟩ s = BS.decideP (BS.onlyB (exB 3) ([11, 12, 13].filter fun z_ => !(decide (z_ ∈ s)))) ⟨0, 5, false, 0, 1, 0, ⟨7, 9⟩, 0⟩ := fun s => by unfold decB; rw [ex_ids]
  have e := funext h
  unfold jugR
  rw [ex_wit3.1, ex_wit3.2, e]
  decide +kernel
theorem ex_jug1 : jugR (exB 1) ⟨0, 5, false, 0, 1, 0, ⟨5, 5⟩, 0⟩ = (⟨3, true, true⟩, 0) := by
  have h : ∀ s, decB (exB 1) ⟨0, 5, false, 0, 1, 0, ⟨5, 5⟩, 0⟩ s = BS.decideP (BS.onlyB (exB 3) ([11, 12, 13].filter fun z_ => !(decide (z_ ∈ s)))) ⟨0, 5, false, 0, 1, 0, ⟨5, 5⟩, 0⟩ := fun s => by unfold decB; rw [ex_ids]; rfl
  have e := funext h
  unfold jugR
  rw [ex_wit1.1, ex_wit1.2, e]
  decide +kernel
theorem srt_sorted {l : List Int} (h : l.Pairwise (· ≤ ·)) : BS.srt l = l := List.mergeSort_of_pairwise (h.imp fun h => by simpa using h)
theorem ex_min : BS.famE [[1, 2], [2], [1, 2, 3]] = 0 ∧ BS.minX [[1, 2], [2], [1, 2, 3]] = [[2]] := by decide +kernel
theorem ex_hit : BS.hitE [[1, 2], [2, 3]] = 0 ∧ BS.hitX [[1, 2], [2, 3]] = [[2], [1, 3]] := by
  have h0 : BS.famE [[1, 2], [2, 3]] = 0 := by decide +kernel
  have hm : BS.minimalF [[1, 2], [2, 3]] = [[1, 2], [2, 3]] := by decide +kernel
  have hs : BS.membersL [[1, 2], [2, 3]] = [1, 2, 3] := by
    unfold BS.membersL
    rw [show ([[1, 2], [2, 3]] : List (List Int)).flatten = [1, 2, 2, 3] from rfl, srt_sorted (by simp)]
    decide +kernel
  obtain ⟨h1, h2⟩ := BS.hit_ok h0 (by rw [hs]; decide)
  refine ⟨h1, ?_⟩
  rw [h2, hm]
  have a : BS.srt [1] = [1] := srt_sorted (by simp)
  have b : BS.srt [2] = [2] := srt_sorted (by simp)
  have c : BS.srt [1, 2] = [1, 2] := srt_sorted (by simp)
  have d : BS.srt [1, 3] = [1, 3] := srt_sorted (by simp)
  have hg : BS.growN [[1, 2], [2, 3]] 2 [] = [[1, 2], [1, 3], [2]] := by
    rw [BS.growN_some (n := 1) (s := []) (l := [1, 2]) (by decide +kernel)]
    simp only [List.flatMap_cons, List.flatMap_nil, List.append_nil, List.nil_append, a, b]
    rw [BS.growN_some (n := 0) (s := [1]) (l := [2, 3]) (by decide +kernel), BS.growN_none (n := 1) (s := [2]) (by decide +kernel)]
    simp only [List.flatMap_cons, List.flatMap_nil, List.append_nil, List.cons_append, List.nil_append, c, d, BS.growN]
  unfold BS.hitL
  rw [show ([[1, 2], [2, 3]] : List (List Int)).length = 2 from rfl, hg]
  decide +kernel
theorem ex_n3 : (leaP (exB 3)).2 = 250000 := by rw [ex_wit3.2]
theorem ex_l3 : (leaP (exB 3)).1 = [[13]] := by rw [ex_wit3.2]
theorem ex_n1 : (leaP (exB 1)).2 = 900000 := by rw [ex_wit1.2]
theorem ex_l1 : (leaP (exB 1)).1 = [[11], [13]] := by rw [ex_wit1.2]
theorem sets_true {H : Gh} {A B : Option Addr} {c d m k : Nat} (xs ys : List (Sv Int)) (hx : GRow H A c encS 1 xs) (hxs : GSets H encI 1 xs) (hy : GRow H B d encS 1 ys) (hys : GSets H encI 1 ys) (hmx : m = xs.length) (hmy : k = ys.length) (h : svs xs = svs ys) : Cv Tryz.prog 33 [.slice A m c, .slice B k d] H fun u_ => u_ = .bool true := by
  have := sameSets_cv xs ys hx hxs hy hys hmx hmy
  rw [decide_eq_true h] at this
  exact this
end Go.Proofs.YtoakoffdjeleoaaGreat
end
