import Derived.Test.YtoakoffdjeleoaaGreatKb09
import Derived.Test.YtoakoffdjeleoaaGreatKb08
import Derived.Test.YtoakoffdjeleoaaGreatKb07
import Derived.Test.YtoakoffdjeleoaaGreatRows
import Derived.ProofKit
import Derived.OpenShut
import Derived.ChangeOld
import Derived.Below
import Derived.Deep.Slices
import Derived.SizedLaws
import Derived.HandedShaped
set_option linter.unusedVariables false
set_option linter.unusedSimpArgs false
set_option linter.unusedSectionVars false
section
set_option maxRecDepth 4000
set_option maxHeartbeats 4000000
namespace Go.Proofs.YtoakoffdjeleoaaGreat
open Go.RowKit Go.Shelf
attribute [local irreducible] BS.narrow BS.lookL BS.findE BS.findR BS.volMax BS.parts BS.checkP BS.solE BS.solR BS.solveR BS.furtherR BS.onlyP BS.decideP BS.formedB BS.checkB BS.subsetsL BS.onlyB sortI BS.minimalF BS.lightL decB witR leaP BS.growN BS.openB BS.openN BS.famE BS.membersL BS.hitE BS.minX BS.hitX conR conL jugR BS.hitL BS.briefB
theorem BS.flat_small_take {l : List (Sv Int)} {k : Nat} (h : ∀ s ∈ l, s.l.length ≤ k) (i : Nat) : ((svs l).take i).flatten.length ≤ i * k := by
 have h1 := BS.flat_small (F := (svs l).take i) (k := k) fun s hs => by
  obtain ⟨t, ht, rfl⟩ := List.mem_map.1 (List.mem_of_mem_take hs);exact h t ht
 refine Nat.le_trans h1 (Nat.mul_le_mul_right _ ?_);rw [List.length_take]; omega
theorem brief_cv {H : Gh} {A : Option Addr} {c m : Nat} (l : List (Sv Int)) (hl : GRow H A c encS 1 l) (hgs : GSets H encI 1 l) (hm : m = l.length) (hmx : l.length ≤ 140737488355328) (hsx : ∀ s ∈ l, s.l.length ≤ 140737488355328) : Cv Tryz.prog 38 [.slice A m c] H fun u_ => u_ = .bool (BS.briefB (svs l)) := by
 have hbl : l.length ≤ 9223372036854775807 := Nat.le_trans hl.1 hl.2.1;refine cv_of Tryz.func38 rfl Tryz.ntmps38 rfl fun w0 hw => ?_;refine c_seq<|c_region ?_;refine la ?_;refine l_end<|x_next<|c_seq<|c_seq<|c_region ?_;refine lm ?_;refine llen ?_;refine lgtr ?_;refine l_end<|x_next ?_;refine c_if (by rfl) (fun h1 => ?_) (fun h1 => ?_)
 ·have h1' := h1;(try simp only [bps] at h1);refine c_seq<|c_region ?_;refine lm ?_;refine llen ?_;refine lleq ?_;refine la ?_;refine l_end<|x_next ?_;refine c_ret ?_;refine x_tr ?_;refine x_ret (vs := [.bool (decide ((m : Int) ≤ 100))]) rfl ⟨rfl, trivial⟩ ?_;show Value.bool _ = .bool _;unfold BS.briefB;rw [if_pos (by rw [List.length_map]; omega), List.length_map, hm]
  congr 1
  rw [decide_eq_decide];omega
 ·have h1' := h1;(try simp only [bps] at h1);refine c_skip ?_;refine x_next<|c_seq<|c_region ?_;refine la ?_;refine l_end<|x_next<|c_seq<|c_seq<|c_region ?_;refine lm ?_;refine llen ?_;refine lm ?_;refine l_end<|x_next<|c_block ?_;refine c_loop (ι := Nat) (fun i => [(0, true, .slice A m c), (2, true, .bool false), (3, true, .int .i64 ((((svs l).take i).flatten.length : Nat) : Int)), (12, true, .slice A m c), (13, true, .int .i64 (m : Int)), (14, true, .int .i64 ((i : Nat) : Int))]) (fun i => []) (fun i => []) (fun _ => H) (fun i => i ≤ l.length) (fun i => l.length - i) 0 (Nat.zero_le _) rfl (sub_cons rfl (sub_cons rfl (sub_int rfl (by first | rfl | (rw [flat_succ_len (by omega)]; push_cast; rfl)) sA))) (rfl) (rfl) ?_
  rintro i hi2
  (try dsimp only);replace hi2 : i ≤ l.length := hi2;have hfs : i < l.length → _ := fun h => flat_succ_len (l := l) h;have hfx : i < l.length → (l.getD i zS).l.length ≤ 140737488355328 := fun h => hsx _ (BS.mem_getD h);have hfl : ((svs l).take i).flatten.length ≤ i * 140737488355328 := BS.flat_small_take hsx i;refine c_seq<|c_region ?_;refine llss ?_;refine l_end<|x_next<|c_seq ?_;refine c_if (by rfl) (fun h3 => ?_) (fun h3 => ?_)
  ·have h3' := h3;(try simp only [bps] at h3);refine c_skip ?_;refine x_next<|c_seq<|c_block<|c_seq<|c_region ?_;refine lix hl zS i (fun p4 o5 g6 => ?_) (hm := hm);refine lg 0 g6 ?_;refine la ?_;refine l_end<|x_next<|c_region ?_;refine lm ?_;refine lm ?_;refine llen ?_;refine ladd ?_;refine la ?_;refine l_end ?_;refine x_bn ?_;refine x_next<|c_region ?_;refine ladd ?_;refine lm ?_;refine l_end ?_;exact x_round (i + 1) (by omega) (by first | omega | (dsimp only; omega)) rfl (sub_cons rfl (sub_cons rfl (sub_int rfl (by first | rfl | (rw [flat_succ_len (by omega)]; push_cast; rfl)) (sub_cons rfl (sub_cons rfl (sub_int rfl (by first | rfl | omega | (simp; done)) (sub_nil _))))))) (rfl) (rfl)
  ·have h3' := h3;(try simp only [bps] at h3);refine c_exit ?_;refine x_te ?_;refine x_te ?_;refine x_be ?_;refine x_next<|c_seq<|c_region ?_;refine lm ?_;refine llen ?_;refine lleq ?_;refine lm ?_;refine l_v (p_move (by exact .yes rfl rfl) (by exact e1 rfl)) ?_;refine l_v (p_bin (by exact .yes rfl rfl) (by exact e2 rfl) (by exact e1 rfl) (fun _ => r_leq _ _ _ _)) ?_;refine l_v (p_and (by rfl) (by rfl)) ?_;refine la ?_;refine l_end<|x_next ?_;refine c_ret ?_;refine x_ret (vs := [.bool (decide ((m : Int) ≤ 20) && decide (((((svs l).take i).flatten.length : Nat) : Int) ≤ 200))]) rfl ⟨rfl, trivial⟩ ?_;obtain rfl : i = l.length := by omega
   show Value.bool _ = .bool _;unfold BS.briefB;rw [if_neg (by rw [List.length_map]; omega), show (svs l).take l.length = svs l from List.take_of_length_le (by rw [List.length_map]; exact Nat.le_refl _)]
   congr 2
   ·rw [decide_eq_decide, List.length_map]; omega
   ·rw [decide_eq_decide]; omega
end Go.Proofs.YtoakoffdjeleoaaGreat
end
section
namespace Go.Proofs.YtoakoffdjeleoaaGreat
open Go.RowKit Go.Shelf
theorem l_ixg {P : Program} {ops : Array Oper} {Q : Exit → Act → World → Prop} {l : List Oper} {C : Cx} {n : Nat} {D : List Deferred} {H : Gh} {E : Env} {M : List (Nat × Obj)} {R : List Rw} {d : Nat} {b : Bool} {α : Type} {t e k' c m : Nat} {x y : Operand} {A : Option Addr} {q : Int} {qk : IntKind} {enc : α → List Value} {Ls : List α} {ty : TypeId} {pos : String} {af : Array Edge} {gd : Option (Nat × Bool)} (hrow : GRow H A c enc k' Ls) (z : α) (j : Nat) (hj : q.toNat = j) (hg : Gd ops E gd b) (hx : Ev E b x (.slice A m c)) (hy : Ev E b y (.int qk q)) [ht : Sl P t e] [hs : Sz P e k'] (hm : m = Ls.length) (hin : b = true → 0 ≤ q ∧ q < (Ls.length : Int))
    (k : ∀ p off, (b = true → GAt H p off (enc (Ls.getD j z))) → RK (wpList P ops Q l) C n D H ((d, b, .pointer (some ⟨p, off, none⟩)) :: E) M R) (hn : Nat.blt d n = true := by rfl) : RK (wpList P ops Q (⟨some d, .indexAddr t x y, ty, pos, af, gd⟩ :: l)) C n D H E M R := by
  obtain ⟨p, off, h1, h2⟩ := p_index (P := P) (ops := ops) (n := n) (E := E) (M := M) (d := d) (b := b) (ty := ty) (pos := pos) (af := af) (gd := gd) (t := t) (e := e) (x := x) (y := y) hrow z j hj hg hx hy hm hin
  exact l_v h2 (k p off h1) hn
theorem p_off {P : Program} {ops : Array Oper} {n : Nat} {H : Gh} {E : Env} {M : List (Nat × Obj)} {d : Nat} {v : Value} {op : Op} {ty : TypeId} {pos : String} {af : Array Edge} {gd : Option (Nat × Bool)} (hg : Gd ops E gd false) : PV P ops n E M H ⟨some d, op, ty, pos, af, gd⟩ d false v := ⟨rfl, fun _ hf => hg.want rfl hf, fun h => (by cases h)⟩
theorem gs_take {α : Type} {H : Gh} {enc : α → List Value} {k : Nat} {L : List (Sv α)} (h : GSets H enc k L) (i : Nat) : GSets H enc k (L.take i) := fun s hs => h s (List.mem_of_mem_take hs)
theorem gs_drop {α : Type} {H : Gh} {enc : α → List Value} {k : Nat} {L : List (Sv α)} (h : GSets H enc k L) (i : Nat) : GSets H enc k (L.drop i) := fun s hs => h s (List.mem_of_mem_drop hs)
theorem gs_app {α : Type} {H : Gh} {enc : α → List Value} {k : Nat} {L N : List (Sv α)} (h : GSets H enc k L) (h' : GSets H enc k N) : GSets H enc k (L ++ N) := fun s hs => (List.mem_append.1 hs).elim (h s) (h' s)
end Go.Proofs.YtoakoffdjeleoaaGreat
end
section
set_option maxRecDepth 4000
set_option maxHeartbeats 4000000
namespace Go.Proofs.YtoakoffdjeleoaaGreat
open Go.RowKit Go.Shelf
attribute [local irreducible] BS.narrow BS.lookL BS.findE BS.findR BS.volMax BS.parts BS.checkP BS.solE BS.solR BS.solveR BS.furtherR BS.onlyP BS.decideP BS.formedB BS.checkB BS.subsetsL BS.onlyB sortI BS.minimalF BS.lightL decB witR leaP BS.growN BS.openB BS.openN BS.famE BS.membersL BS.hitE BS.minX BS.hitX conR conL jugR BS.hitL BS.briefB
theorem mem_no {xs : List Int} {x : Int} (h : ∀ j, j < xs.length → ¬ xs.getD j 0 = x) : ¬ x ∈ xs := fun hm => by
 obtain ⟨j, hj, rfl⟩ := List.mem_iff_getElem.1 hm;have := h j hj;rw [List.getD_eq_getElem?_getD, List.getElem?_eq_getElem hj] at this;exact this rfl
theorem part_no {xs ys : List Int} {i : Nat} (hi : i < xs.length) (h : ¬ xs.getD i 0 ∈ ys) : BS.partB xs ys = false := by
 cases e : BS.partB xs ys with
 | false => rfl
 | true => exact absurd (BS.partB_iff.1 e _ (BS.mem_getD hi)) h
theorem part_yes {xs ys : List Int} (h : ∀ j, j < xs.length → xs.getD j 0 ∈ ys) : BS.partB xs ys = true := BS.partB_iff.2 fun x hm => by
 obtain ⟨j, hj, rfl⟩ := List.mem_iff_getElem.1 hm;have := h j hj
 rwa [List.getD_eq_getElem?_getD, List.getElem?_eq_getElem hj] at this
theorem any_succ {xs : List Int} {p : Int → Bool} {k : Nat} (hk : k < xs.length) : (xs.take (k + 1)).any p = ((xs.take k).any p || p (xs.getD k 0)) := by
 rw [BS.take_succ_getD xs 0 hk, List.any_append]; simp
theorem lex_eq {xs ys : List Int} {i : Nat} (hi : i < xs.length) (hj : i < ys.length) (h : BS.lexlt xs ys = BS.lexlt (xs.drop i) (ys.drop i)) (h0 : xs.getD i 0 = ys.getD i 0) : BS.lexlt xs ys = BS.lexlt (xs.drop (i + 1)) (ys.drop (i + 1)) := by
 rw [h, BS.drop_getD 0 hi, BS.drop_getD 0 hj, BS.lexlt, h0]; simp
theorem lex_ne {xs ys : List Int} {i : Nat} (hi : i < xs.length) (hj : i < ys.length) (h : BS.lexlt xs ys = BS.lexlt (xs.drop i) (ys.drop i)) (h0 : ¬ xs.getD i 0 = ys.getD i 0) : BS.lexlt xs ys = decide (xs.getD i 0 < ys.getD i 0) := by
 rw [h, BS.drop_getD 0 hi, BS.drop_getD 0 hj, BS.lexlt, if_neg h0]
theorem ahead_len {xs ys : List Int} (h : ¬ xs.length = ys.length) : BS.ahead xs ys = decide (xs.length < ys.length) := if_neg h
theorem ahead_lex {xs ys : List Int} (h : xs.length = ys.length) : BS.ahead xs ys = BS.lexlt xs ys := if_pos h
theorem badS_set {s : List Int} (h : BS.isSetL s = false) : BS.badS s = true := by unfold BS.badS; rw [h]; rfl
theorem badS_el {s : List Int} {j : Nat} (hj : j < s.length) (h : BS.within (s.getD j 0) 1 64 = false) : BS.badS s = true := by
 unfold BS.badS;rw [List.any_eq_true.2 ⟨_, BS.mem_getD hj, by rw [h]; rfl⟩, Bool.or_true]
theorem badS_no {s : List Int} (h : BS.isSetL s = true) (h2 : ∀ j, j < s.length → BS.within (s.getD j 0) 1 64 = true) : BS.badS s = false := by
 unfold BS.badS;rw [h, List.any_eq_false.2 fun x hx => ?_]
 ·rfl
 ·obtain ⟨j, hj, rfl⟩ := List.mem_iff_getElem.1 hx;have := h2 j hj;rw [List.getD_eq_getElem?_getD, List.getElem?_eq_getElem hj] at this;rw [show BS.within s[j] 1 64 = true from this]; decide
theorem rhas_cv {H : Gh} {A : Option Addr} {c m : Nat} (xs : List Int) (hx : GRow H A c encI 1 xs) (hmx : m = xs.length) (x : Int) : Cv Tryz.prog 102 [.slice A m c, .int .i64 x] H fun u_ => u_ = .bool (decide (x ∈ xs)) := by
 have hb1 : xs.length ≤ 9223372036854775807 := Nat.le_trans hx.1 hx.2.1;refine cv_of Tryz.func102 rfl Tryz.ntmps102 rfl fun w0 hw => ?_;refine c_seq<|c_region ?_;refine la ?_;refine l_end<|x_next<|c_seq<|c_seq<|c_region ?_;refine la ?_;refine l_end<|x_next<|c_block ?_;refine c_loop (ι := Nat) (fun i => [(0, true, .slice A m c), (1, true, .int .i64 x), (5, true, .int .i64 ((i : Nat) : Int))]) (fun i => []) (fun i => []) (fun _ => H) (fun i => i ≤ xs.length ∧ ∀ j, j < i → ¬ xs.getD j 0 = x) (fun i => xs.length - i) 0 (⟨Nat.zero_le _, fun j h => by omega⟩) rfl sA (rfl) (rfl) ?_
 rintro i hi1
 (try dsimp only);replace hi1 : i ≤ xs.length ∧ ∀ j, j < i → ¬ xs.getD j 0 = x := hi1;obtain ⟨hi1, hi2⟩ := hi1;refine c_seq<|c_seq<|c_region ?_;refine lm ?_;refine lm ?_;refine llen ?_;refine llss ?_;refine l_end<|x_next ?_;refine c_if (by rfl) (fun h2 => ?_) (fun h2 => ?_)
 ·have h2' := h2;(try simp only [bps] at h2);refine c_skip ?_;refine x_next<|c_seq<|c_block<|c_seq<|c_region ?_;refine lm ?_;refine lm ?_;refine lix hx 0 i (fun p3 o4 g5 => ?_) (hm := hmx);refine lg 0 g5 ?_;refine lm ?_;refine leql ?_;refine l_end<|x_next ?_;refine c_if (by rfl) (fun h6 => ?_) (fun h6 => ?_)
  ·have h6' := h6;(try simp only [bps] at h6);refine c_seq<|c_region ?_;refine la ?_;refine l_end<|x_next ?_;refine c_ret ?_;refine x_br ?_;refine x_tr ?_;refine x_tr ?_;refine x_br ?_;refine x_tr ?_;refine x_ret (vs := [.bool true]) rfl ⟨rfl, trivial⟩ ?_;show Value.bool _ = .bool _;rw [decide_eq_true (show x ∈ xs from by rw [← h6]; exact BS.mem_getD (by omega))]
  ·have h6' := h6;(try simp only [bps] at h6);refine c_skip ?_;refine x_bn ?_;refine x_next<|c_region ?_;refine lm ?_;refine ladd ?_;refine la ?_;refine l_end ?_;exact x_round (i + 1) (⟨by omega, fun j hj => by by_cases e : j < i; exact hi2 j e; obtain rfl : j = i := (by omega); exact h6⟩) (by first | omega | (dsimp only; omega)) rfl (sub_cons rfl (sub_cons rfl (sub_int rfl (by first | rfl | omega | (simp; done)) (sub_nil _)))) (rfl) (rfl)
 ·have h2' := h2;(try simp only [bps] at h2);refine c_exit ?_;refine x_te ?_;refine x_te ?_;refine x_be ?_;refine x_next<|c_seq<|c_region ?_;refine la ?_;refine l_end<|x_next ?_;refine c_ret ?_;refine x_ret (vs := [.bool false]) rfl ⟨rfl, trivial⟩ ?_;show Value.bool _ = .bool _;rw [decide_eq_false (mem_no (fun j hj => hi2 j (by omega)))]
theorem rpart_cv {H : Gh} {A : Option Addr} {c m : Nat} (xs : List Int) (hx : GRow H A c encI 1 xs) (hmx : m = xs.length) {B : Option Addr} {d k : Nat} (ys : List Int) (hy : GRow H B d encI 1 ys) (hmy : k = ys.length) : Cv Tryz.prog 99 [.slice A m c, .slice B k d] H fun u_ => u_ = .bool (BS.partB xs ys) := by
 have hb1 : xs.length ≤ 9223372036854775807 := Nat.le_trans hx.1 hx.2.1;have hb2 : ys.length ≤ 9223372036854775807 := Nat.le_trans hy.1 hy.2.1;refine cv_of Tryz.func99 rfl Tryz.ntmps99 rfl fun w0 hw => ?_;refine c_seq<|c_region ?_;refine la ?_;refine l_end<|x_next<|c_seq<|c_seq<|c_region ?_;refine la ?_;refine l_end<|x_next<|c_block ?_;refine c_loop (ι := Nat) (fun i => [(0, true, .slice A m c), (1, true, .slice B k d), (5, true, .int .i64 ((i : Nat) : Int))]) (fun i => []) (fun i => []) (fun _ => H) (fun i => i ≤ xs.length ∧ ∀ j, j < i → xs.getD j 0 ∈ ys) (fun i => xs.length - i) 0 (⟨Nat.zero_le _, fun j h => by omega⟩) rfl sA (rfl) (rfl) ?_
 rintro i hi1
 (try dsimp only);replace hi1 : i ≤ xs.length ∧ ∀ j, j < i → xs.getD j 0 ∈ ys := hi1;obtain ⟨hi1, hi2⟩ := hi1;refine c_seq<|c_seq<|c_region ?_;refine lm ?_;refine lm ?_;refine llen ?_;refine llss ?_;refine l_end<|x_next ?_;refine c_if (by rfl) (fun h2 => ?_) (fun h2 => ?_)
 ·have h2' := h2;(try simp only [bps] at h2);refine c_skip ?_;refine x_next<|c_seq<|c_block<|c_seq<|c_region ?_;refine lm ?_;refine lm ?_;refine lm ?_;refine lix hx 0 i (fun p3 o4 g5 => ?_) (hm := hmx);refine lg 0 g5 ?_;refine lcl (rhas_cv ys hy hmy (xs.getD i 0)) ?_;refine la ?_;refine l_end<|x_next<|c_seq<|c_region ?_;refine lm ?_;refine lnot ?_;refine l_end<|x_next ?_;refine c_if (by rfl) (fun h6 => ?_) (fun h6 => ?_)
  ·have h6' := h6;(try simp only [bps] at h6);refine c_seq<|c_region ?_;refine la ?_;refine l_end<|x_next ?_;refine c_ret ?_;refine x_br ?_;refine x_tr ?_;refine x_tr ?_;refine x_br ?_;refine x_tr ?_;refine x_ret (vs := [.bool false]) rfl ⟨rfl, trivial⟩ ?_;show Value.bool _ = .bool _;rw [part_no (i := i) (by omega) h6]
  ·have h6' := h6;(try simp only [bps] at h6);refine c_skip ?_;refine x_bn ?_;refine x_next<|c_region ?_;refine lm ?_;refine ladd ?_;refine la ?_;refine l_end ?_;exact x_round (i + 1) (⟨by omega, fun j hj => by by_cases e : j < i; exact hi2 j e; obtain rfl : j = i := (by omega); exact h6⟩) (by first | omega | (dsimp only; omega)) rfl (sub_cons rfl (sub_cons rfl (sub_int rfl (by first | rfl | omega | (simp; done)) (sub_nil _)))) (rfl) (rfl)
 ·have h2' := h2;(try simp only [bps] at h2);refine c_exit ?_;refine x_te ?_;refine x_te ?_;refine x_be ?_;refine x_next<|c_seq<|c_region ?_;refine la ?_;refine l_end<|x_next ?_;refine c_ret ?_;refine x_ret (vs := [.bool true]) rfl ⟨rfl, trivial⟩ ?_;show Value.bool _ = .bool _;rw [part_yes (fun j hj => hi2 j (by omega))]
theorem rhits_cv {H : Gh} {A : Option Addr} {c m : Nat} (xs : List Int) (hx : GRow H A c encI 1 xs) (hmx : m = xs.length) {B : Option Addr} {d k : Nat} (l : List (Sv Int)) (hl : GRow H B d encS 1 l) (hgs : GSets H encI 1 l) (hm : k = l.length) : Cv Tryz.prog 107 [.slice A m c, .slice B k d] H fun u_ => u_ = .bool (BS.hitsB xs (svs l)) := by
 have hb1 : xs.length ≤ 9223372036854775807 := Nat.le_trans hx.1 hx.2.1;have hbl : l.length ≤ 9223372036854775807 := Nat.le_trans hl.1 hl.2.1;refine cv_of Tryz.func107 rfl Tryz.ntmps107 rfl fun w0 hw => ?_;refine c_seq<|c_region ?_;refine la ?_;refine l_end<|x_next<|c_seq<|c_seq<|c_region ?_;refine la ?_;refine l_end<|x_next<|c_block ?_;refine c_loop (ι := Nat) (fun i => [(0, true, .slice A m c), (1, true, .slice B k d), (5, true, .int .i64 ((i : Nat) : Int))]) (fun i => []) (fun i => []) (fun _ => H) (fun i => i ≤ l.length ∧ ∀ j, j < i → ((l.getD j zS).l.any fun x => decide (x ∈ xs)) = true) (fun i => l.length - i) 0 (⟨Nat.zero_le _, fun j h => by omega⟩) rfl sA (rfl) (rfl) ?_
 rintro i hi1
 (try dsimp only);replace hi1 : i ≤ l.length ∧ ∀ j, j < i → ((l.getD j zS).l.any fun x => decide (x ∈ xs)) = true := hi1;obtain ⟨hi1, hi2⟩ := hi1;refine c_seq<|c_seq<|c_region ?_;refine lm ?_;refine lm ?_;refine llen ?_;refine llss ?_;refine l_end<|x_next ?_;refine c_if (by rfl) (fun h2 => ?_) (fun h2 => ?_)
 ·have h2' := h2;(try simp only [bps] at h2);refine c_skip ?_;refine x_next<|c_seq<|c_block<|c_seq<|c_region ?_;refine la ?_;refine l_end<|x_next<|c_seq<|c_seq<|c_region ?_;refine la ?_;refine l_end<|x_next<|c_block ?_;have hbi : (l.getD i zS).l.length ≤ 9223372036854775807 := Nat.le_trans (gs_at hgs i zS (by omega)).1 (gs_at hgs i zS (by omega)).2.1;refine c_loop (ι := Nat) (fun q => [(0, true, .slice A m c), (1, true, .slice B k d), (5, true, .int .i64 ((i : Nat) : Int)), (6, true, .bool (((l.getD i zS).l.take q).any (fun x => decide (x ∈ xs)))), (7, true, .int .i64 ((q : Nat) : Int))]) (fun q => []) (fun q => []) (fun _ => H) (fun q => q ≤ (l.getD i zS).l.length) (fun q => (l.getD i zS).l.length - q) 0 (Nat.zero_le _) rfl (sub_cons rfl (sub_cons rfl (sub_cons rfl (sub_eq rfl (by first | rfl | (rw [any_succ (by omega)])) sA)))) (rfl) (rfl) ?_
  rintro q hi3
  (try dsimp only);replace hi3 : q ≤ (l.getD i zS).l.length := hi3;refine c_seq<|c_seq<|c_region ?_;refine lm ?_;refine lm ?_;refine lm ?_;refine lix hl zS i (fun p4 o5 g6 => ?_) (hm := hm);refine lg 0 g6 ?_;refine llen ?_;refine llss ?_;refine l_end<|x_next ?_;refine c_if (by rfl) (fun h7 => ?_) (fun h7 => ?_)
  ·have h7' := h7;(try simp only [bps] at h7);refine c_skip ?_;refine x_next<|c_seq<|c_block<|c_region ?_;refine lm ?_;refine lm ?_;refine l_v (p_move (by exact .not rfl rfl) (by exact e1 rfl)) ?_;refine l_v (p_move (by exact .not rfl rfl) (by exact e1 rfl)) ?_;refine l_v (p_move (by exact .not rfl rfl) (by exact e1 rfl)) ?_;refine l_ixg hl zS i rfl (by exact .not rfl rfl) (by exact e2 rfl) (by exact e2 rfl) (hm) (fun hb => (by simp only [bps] at hb; omega)) (fun p8 o9 g10 => ?_);refine l_v (p_gload 0 g10 (by exact .not rfl rfl) (by exact e2 rfl)) ?_;refine l_v (p_move (by exact .not rfl rfl) (by exact e1 rfl)) ?_;refine l_ixg (gs_at hgs (i) zS (by omega)) 0 q rfl (by exact .not rfl rfl) (by exact e2 rfl) (by exact e2 rfl) (by rfl) (fun hb => (by simp only [bps] at hb; omega)) (fun p11 o12 g13 => ?_);refine l_v (p_gload 0 g13 (by exact .not rfl rfl) (by exact e2 rfl)) ?_;refine l_x (x_calle (vs := [.slice A m c, .int .i64 ((l.getD i zS).l.getD q 0)]) (by exact .not rfl rfl) ⟨(by exact e2 rfl), (by exact e2 rfl), trivial⟩ (fun hb => rhas_cv xs hx hmx ((l.getD i zS).l.getD q 0)) (k := ?_))
   refine l_v (p_or (by rfl) (by rfl)) ?_;refine la ?_;refine l_end ?_;refine x_bn ?_;refine x_next<|c_region ?_;refine lm ?_;refine ladd ?_;refine la ?_;refine l_end ?_;exact x_round (q + 1) (by omega) (by first | omega | (dsimp only; omega)) rfl (sub_cons rfl (sub_cons rfl (sub_cons rfl (sub_eq rfl (by first | rfl | (rw [any_succ (by omega)])) (sub_int rfl (by first | rfl | omega | (simp; done)) (sub_nil _)))))) (rfl) (rfl)
  ·have h7' := h7;(try simp only [bps] at h7);refine c_exit ?_;refine x_te ?_;refine x_te ?_;refine x_be ?_;refine x_next<|c_seq<|c_region ?_;refine lm ?_;refine lnot ?_;refine l_end<|x_next ?_;refine c_if (by rfl) (fun h14 => ?_) (fun h14 => ?_)
   ·have h14' := h14;(try simp only [bps] at h14);refine c_seq<|c_region ?_;refine la ?_;refine l_end<|x_next ?_;refine c_ret ?_;refine x_br ?_;refine x_tr ?_;refine x_tr ?_;refine x_br ?_;refine x_tr ?_;refine x_ret (vs := [.bool false]) rfl ⟨rfl, trivial⟩ ?_;show Value.bool _ = .bool _;obtain rfl : q = (l.getD i zS).l.length := (by omega);have h9 := h14';rw [List.take_length] at h9;rw [hits_no (i := i) (by omega) (by simpa using h9)]
   ·have h14' := h14;(try simp only [bps] at h14);refine c_skip ?_;refine x_bn ?_;refine x_next<|c_region ?_;refine lm ?_;refine ladd ?_;refine la ?_;refine l_end ?_;exact x_round (i + 1) (⟨by omega, fun j hj => by by_cases e : j < i; exact hi2 j e; obtain rfl : j = i := (by omega); obtain rfl : q = (l.getD j zS).l.length := (by omega); have h9 := h14'; rw [List.take_length] at h9; simpa using h9⟩) (by first | omega | (dsimp only; omega)) rfl (sub_cons rfl (sub_cons rfl (sub_int rfl (by first | rfl | omega | (simp; done)) (sub_nil _)))) (rfl) (rfl)
 ·have h2' := h2;(try simp only [bps] at h2);refine c_exit ?_;refine x_te ?_;refine x_te ?_;refine x_be ?_;refine x_next<|c_seq<|c_region ?_;refine la ?_;refine l_end<|x_next ?_;refine c_ret ?_;refine x_ret (vs := [.bool true]) rfl ⟨rfl, trivial⟩ ?_;show Value.bool _ = .bool _;rw [hits_yes (fun j hj => hi2 j (by omega))]
theorem rHits_cv {H : Gh} {A : Option Addr} {c m : Nat} (xs : List Int) (hx : GRow H A c encI 1 xs) (hmx : m = xs.length) {B : Option Addr} {d k : Nat} (l : List (Sv Int)) (hl : GRow H B d encS 1 l) (hgs : GSets H encI 1 l) (hm : k = l.length) : Cv Tryz.prog 44 [.slice A m c, .slice B k d] H fun u_ => u_ = .bool (BS.hitsB xs (svs l)) := by
 refine cv_of Tryz.func44 rfl Tryz.ntmps44 rfl fun w0 hw => ?_;refine c_seq<|c_region ?_;refine la ?_;refine l_end<|x_next<|c_seq<|c_region ?_;refine lm ?_;refine lm ?_;refine lcl (rhits_cv xs hx hmx l hl hgs hm) ?_;refine la ?_;refine l_end<|x_next ?_;refine c_ret ?_;refine x_ret (vs := [.bool (BS.hitsB xs (svs l))]) rfl ⟨rfl, trivial⟩ ?_;rfl
theorem rSet_cv {H : Gh} {A : Option Addr} {c m : Nat} (l : List Int) (hl : GRow H A c encI 1 l) (hm : m = l.length) : Cv Tryz.prog 168 [.slice A m c] H fun u_ => u_ = .bool (BS.isSetL l) := by
 have hbl : l.length ≤ 9223372036854775807 := Nat.le_trans hl.1 hl.2.1;refine cv_of Tryz.func168 rfl Tryz.ntmps168 rfl fun w0 hw => ?_;refine c_seq<|c_region ?_;refine la ?_;refine l_end<|x_next<|c_seq<|c_seq<|c_region ?_;refine la ?_;refine l_end<|x_next<|c_block ?_;refine c_loop (ι := Nat) (fun i => [(0, true, .slice A m c), (3, true, .int .i64 ((i : Nat) : Int))]) (fun i => []) (fun i => []) (fun _ => H) (fun i => 1 ≤ i ∧ ∀ j, j + 1 < i → l.getD j 0 < l.getD (j + 1) 0) (fun i => l.length - i) 1 (⟨by omega, fun j hj => by omega⟩) rfl sA (rfl) (rfl) ?_
 rintro i hi1
 (try dsimp only);replace hi1 : 1 ≤ i ∧ ∀ j, j + 1 < i → l.getD j 0 < l.getD (j + 1) 0 := hi1;obtain ⟨hi1, hi2⟩ := hi1;refine c_seq<|c_seq<|c_region ?_;refine lm ?_;refine lm ?_;refine llen ?_;refine llss ?_;refine l_end<|x_next ?_;refine c_if (by rfl) (fun h2 => ?_) (fun h2 => ?_)
 ·have h2' := h2;(try simp only [bps] at h2);refine c_skip ?_;refine x_next<|c_seq<|c_block<|c_seq ?_;refine c_draw [] H ?_;refine a_v 0 rfl [] (p_move .no (by exact e1 rfl)) inM_nil te0 ?_;refine a_v 1 rfl [] (p_move .no (by exact e1 rfl)) inM_nil te0 ?_;refine a_ix 2 rfl hl 0 i rfl .no (by exact e1 rfl) (by exact e1 rfl) (hm) (fun _ => (by omega)) inM_nil te0 (fun p3 o4 g5 => ?_);refine a_v 3 rfl [] (p_gload 0 g5 .no (by exact e1 rfl)) inM_nil te0 ?_;refine a_v 4 rfl [] (p_move .no (by exact e1 rfl)) inM_nil te0 ?_;refine a_v 5 rfl [] (p_move .no (by exact e1 rfl)) inM_nil te0 ?_;refine a_v 6 rfl [] (p_bin .no (by exact e1 rfl) (by exact e1 rfl) (fun _ => r_sub _ (by omega))) inM_nil te0 ?_;refine a_v 7 rfl [] (p_max .no (by exact e1 rfl) (by exact e1 rfl)) inM_nil te0 ?_;refine a_ix 8 rfl hl 0 (max 0 (((i : Nat) : Int) - 1)).toNat rfl .no (by exact e1 rfl) (by exact e1 rfl) (hm) (fun _ => (by omega)) inM_nil te0 (fun p6 o7 g8 => ?_)
  refine a_v 9 rfl [] (p_gload 0 g8 .no (by exact e1 rfl)) inM_nil te0 ?_;refine a_v 10 rfl [] (p_bin .no (by exact e1 rfl) (by exact e1 rfl) (fun _ => r_leq _ _ _ _)) inM_nil te0 ?_;refine a_end ?_;refine x_next ?_;refine c_if (by rfl) (fun h9 => ?_) (fun h9 => ?_)
  ·have h9' := h9;(try simp only [bps] at h9);refine c_seq<|c_region ?_;refine la ?_;refine l_end<|x_next ?_;refine c_ret ?_;refine x_br ?_;refine x_tr ?_;refine x_tr ?_;refine x_br ?_;refine x_tr ?_;refine x_ret (vs := [.bool false]) rfl ⟨rfl, trivial⟩ ?_;rw [BS.isSet_no (i := i) (by omega) (by omega) (by omega) h9];rfl
  ·have h9' := h9;(try simp only [bps] at h9);refine c_skip ?_;refine x_bn ?_;refine x_next<|c_region ?_;refine lm ?_;refine ladd ?_;refine la ?_;refine l_end ?_;exact x_round (i + 1) (⟨by omega, BS.set_step (by omega) (by omega) hi2 h9⟩) (by first | omega | (dsimp only; omega)) rfl (sub_cons rfl (sub_int rfl (by first | rfl | omega | (simp; done)) (sub_nil _))) (rfl) (rfl)
 ·have h2' := h2;(try simp only [bps] at h2);refine c_exit ?_;refine x_te ?_;refine x_te ?_;refine x_be ?_;refine x_next<|c_seq<|c_region ?_;refine la ?_;refine l_end<|x_next ?_;refine c_ret ?_;refine x_ret (vs := [.bool true]) rfl ⟨rfl, trivial⟩ ?_;rw [BS.isSet_iff.2 fun j hj => hi2 j (by omega)];rfl
theorem rin_cv {H : Gh} (n lo hi : Int) : Cv Tryz.prog 80 [.int .i64 n, .int .i64 lo, .int .i64 hi] H fun u_ => u_ = .bool (BS.within n lo hi) := by
 refine cv_of Tryz.func80 rfl Tryz.ntmps80 rfl fun w0 hw => ?_;refine c_seq<|c_region ?_;refine la ?_;refine l_end<|x_next<|c_seq<|c_region ?_;refine lm ?_;refine lm ?_;refine lgeq ?_;refine lm ?_;refine l_v (p_move (by exact .yes rfl rfl) (by exact e1 rfl)) ?_;refine l_v (p_move (by exact .yes rfl rfl) (by exact e1 rfl)) ?_;refine l_v (p_bin (by exact .yes rfl rfl) (by exact e2 rfl) (by exact e2 rfl) (fun _ => r_leq _ _ _ _)) ?_;refine l_v (p_and (by rfl) (by rfl)) ?_;refine la ?_;refine l_end<|x_next ?_;refine c_ret ?_;refine x_ret (vs := [.bool (decide (lo ≤ n) && decide (n ≤ hi))]) rfl ⟨rfl, trivial⟩ ?_;rfl
theorem rformed_cv {H : Gh} {A : Option Addr} {c m : Nat} (l : List (Sv Int)) (hl : GRow H A c encS 1 l) (hgs : GSets H encI 1 l) (hm : m = l.length) : Cv Tryz.prog 98 [.slice A m c] H fun u_ => u_ = .int .i64 (BS.famE (svs l)) := by
 have hbl : l.length ≤ 9223372036854775807 := Nat.le_trans hl.1 hl.2.1;refine cv_of Tryz.func98 rfl Tryz.ntmps98 rfl fun w0 hw => ?_;refine c_seq<|c_region ?_;refine la ?_;refine l_end<|x_next<|c_seq<|c_seq<|c_region ?_;refine lm ?_;refine llen ?_;refine lgtr ?_;refine l_end<|x_next ?_;refine c_if (by rfl) (fun h1 => ?_) (fun h1 => ?_)
 ·have h1' := h1;(try simp only [bps] at h1);refine c_seq<|c_region ?_;refine la ?_;refine l_end<|x_next ?_;refine c_ret ?_;refine x_tr ?_;refine x_ret (vs := [.int .i64 2]) rfl ⟨rfl, trivial⟩ ?_;show Value.int .i64 _ = .int .i64 _;rw [BS.fam_big (by rw [List.length_map]; omega)]
 ·have h1' := h1;(try simp only [bps] at h1);refine c_skip ?_;refine x_next<|c_seq<|c_seq<|c_region ?_;refine la ?_;refine l_end<|x_next<|c_block ?_;refine c_loop (ι := Nat) (fun i => [(0, true, .slice A m c), (3, true, .int .i64 ((i : Nat) : Int))]) (fun i => []) (fun i => []) (fun _ => H) (fun i => i ≤ l.length ∧ ∀ j, j < i → BS.badS ((svs l).getD j []) = false) (fun i => l.length - i) 0 (⟨Nat.zero_le _, fun j h => by omega⟩) rfl sA (rfl) (rfl) ?_
  rintro i hi2
  (try dsimp only);replace hi2 : i ≤ l.length ∧ ∀ j, j < i → BS.badS ((svs l).getD j []) = false := hi2;obtain ⟨hi1, hi2⟩ := hi2;refine c_seq<|c_seq<|c_region ?_;refine lm ?_;refine lm ?_;refine llen ?_;refine llss ?_;refine l_end<|x_next ?_;refine c_if (by rfl) (fun h3 => ?_) (fun h3 => ?_)
  ·have h3' := h3;(try simp only [bps] at h3);refine c_skip ?_;refine x_next<|c_seq<|c_block<|c_seq<|c_region ?_;refine lm ?_;refine lm ?_;refine lix hl zS i (fun p4 o5 g6 => ?_) (hm := hm);refine lg 0 g6 ?_;refine lcl (rSet_cv (l.getD i zS).l (gs_at hgs (i) zS (by omega)) rfl) ?_;refine la ?_;refine l_end<|x_next<|c_seq<|c_seq<|c_region ?_;refine lm ?_;refine lnot ?_;refine l_end<|x_next ?_;refine c_if (by rfl) (fun h7 => ?_) (fun h7 => ?_)
   ·have h7' := h7;(try simp only [bps] at h7);refine c_seq<|c_region ?_;refine la ?_;refine l_end<|x_next ?_;refine c_ret ?_;refine x_tr ?_;refine x_br ?_;refine x_tr ?_;refine x_tr ?_;refine x_br ?_;refine x_tr ?_;refine x_ret (vs := [.int .i64 1]) rfl ⟨rfl, trivial⟩ ?_;show Value.int .i64 _ = .int .i64 _;rw [BS.fam_bad (i := i) (by rw [List.length_map]; omega) (by rw [List.length_map]; omega) (by rw [svl_getD]; exact badS_set h7)]
   ·have h7' := h7;(try simp only [bps] at h7);refine c_skip ?_;refine x_next<|c_seq<|c_region ?_;refine la ?_;refine l_end<|x_next<|c_block ?_;have hbi : (l.getD i zS).l.length ≤ 9223372036854775807 := Nat.le_trans (gs_at hgs i zS (by omega)).1 (gs_at hgs i zS (by omega)).2.1;refine c_loop (ι := Nat) (fun q => [(0, true, .slice A m c), (3, true, .int .i64 ((i : Nat) : Int)), (5, true, .int .i64 ((q : Nat) : Int))]) (fun q => []) (fun q => []) (fun _ => H) (fun q => q ≤ (l.getD i zS).l.length ∧ ∀ j, j < q → BS.within ((l.getD i zS).l.getD j 0) 1 64 = true) (fun q => (l.getD i zS).l.length - q) 0 (⟨Nat.zero_le _, fun j h => by omega⟩) rfl sA (rfl) (rfl) ?_
    rintro q hi8
    (try dsimp only);replace hi8 : q ≤ (l.getD i zS).l.length ∧ ∀ j, j < q → BS.within ((l.getD i zS).l.getD j 0) 1 64 = true := hi8;obtain ⟨hq1, hq2⟩ := hi8;refine c_seq<|c_seq<|c_region ?_;refine lm ?_;refine lm ?_;refine lm ?_;refine lix hl zS i (fun p9 o10 g11 => ?_) (hm := hm);refine lg 0 g11 ?_;refine llen ?_;refine llss ?_;refine l_end<|x_next ?_;refine c_if (by rfl) (fun h12 => ?_) (fun h12 => ?_)
    ·have h12' := h12;(try simp only [bps] at h12);refine c_skip ?_;refine x_next<|c_seq<|c_block<|c_seq<|c_region ?_;refine lm ?_;refine lm ?_;refine lix hl zS i (fun p13 o14 g15 => ?_) (hm := hm);refine lg 0 g15 ?_;refine lm ?_;refine lix (gs_at hgs (i) zS (by omega)) 0 q (fun p16 o17 g18 => ?_);refine lg 0 g18 ?_;refine lcl (rin_cv ((l.getD i zS).l.getD q 0) 1 64) ?_;refine lnot ?_;refine l_end<|x_next ?_;refine c_if (by rfl) (fun h19 => ?_) (fun h19 => ?_)
     ·have h19' := h19;(try simp only [bps] at h19);refine c_seq<|c_region ?_;refine la ?_;refine l_end<|x_next ?_;refine c_ret ?_;refine x_br ?_;refine x_tr ?_;refine x_tr ?_;refine x_br ?_;refine x_br ?_;refine x_tr ?_;refine x_tr ?_;refine x_br ?_;refine x_tr ?_;refine x_ret (vs := [.int .i64 1]) rfl ⟨rfl, trivial⟩ ?_;show Value.int .i64 _ = .int .i64 _;rw [BS.fam_bad (i := i) (by rw [List.length_map]; omega) (by rw [List.length_map]; omega) (by rw [svl_getD]; exact badS_el (j := q) (by omega) h19)]
     ·have h19' := h19;(try simp only [bps] at h19);refine c_skip ?_;refine x_bn ?_;refine x_next<|c_region ?_;refine lm ?_;refine ladd ?_;refine la ?_;refine l_end ?_;exact x_round (q + 1) (⟨by omega, fun j hj => by by_cases e : j < q; exact hq2 j e; obtain rfl : j = q := (by omega); exact h19⟩) (by first | omega | (dsimp only; omega)) rfl (sub_cons rfl (sub_cons rfl (sub_int rfl (by first | rfl | omega | (simp; done)) (sub_nil _)))) (rfl) (rfl)
    ·have h12' := h12;(try simp only [bps] at h12);refine c_exit ?_;refine x_te ?_;refine x_te ?_;refine x_be ?_;refine x_bn ?_;refine x_next<|c_region ?_;refine lm ?_;refine ladd ?_;refine la ?_;refine l_end ?_;exact x_round (i + 1) (⟨by omega, fun j hj => by by_cases e : j < i; exact hi2 j e; obtain rfl : j = i := (by omega); rw [svl_getD]; exact badS_no h7 (fun j hj => hq2 j (by omega))⟩) (by first | omega | (dsimp only; omega)) rfl (sub_cons rfl (sub_int rfl (by first | rfl | omega | (simp; done)) (sub_nil _))) (rfl) (rfl)
  ·have h3' := h3;(try simp only [bps] at h3);refine c_exit ?_;refine x_te ?_;refine x_te ?_;refine x_be ?_;refine x_next<|c_seq<|c_region ?_;refine la ?_;refine l_end<|x_next ?_;refine c_ret ?_;refine x_ret (vs := [.int .i64 0]) rfl ⟨rfl, trivial⟩ ?_;show Value.int .i64 _ = .int .i64 _;rw [BS.fam_ok (by rw [List.length_map]; omega) (fun j hj => hi2 j (by rw [List.length_map] at hj; omega))]
theorem rahead_cv {H : Gh} {A : Option Addr} {c m : Nat} (xs : List Int) (hx : GRow H A c encI 1 xs) (hmx : m = xs.length) {B : Option Addr} {d k : Nat} (ys : List Int) (hy : GRow H B d encI 1 ys) (hmy : k = ys.length) : Cv Tryz.prog 160 [.slice A m c, .slice B k d] H fun u_ => u_ = .bool (BS.ahead xs ys) := by
 have hb1 : xs.length ≤ 9223372036854775807 := Nat.le_trans hx.1 hx.2.1;have hb2 : ys.length ≤ 9223372036854775807 := Nat.le_trans hy.1 hy.2.1;refine cv_of Tryz.func160 rfl Tryz.ntmps160 rfl fun w0 hw => ?_;refine c_seq<|c_region ?_;refine la ?_;refine l_end<|x_next<|c_seq<|c_seq<|c_region ?_;refine lm ?_;refine llen ?_;refine lm ?_;refine llen ?_;refine lneq ?_;refine l_end<|x_next ?_;refine c_if (by rfl) (fun h1 => ?_) (fun h1 => ?_)
 ·have h1' := h1;(try simp only [bps] at h1);refine c_seq<|c_region ?_;refine lm ?_;refine llen ?_;refine lm ?_;refine llen ?_;refine llss ?_;refine la ?_;refine l_end<|x_next ?_;refine c_ret ?_;refine x_tr ?_;refine x_ret (vs := [.bool (decide ((m : Int) < (k : Int)))]) rfl ⟨rfl, trivial⟩ ?_;show Value.bool _ = .bool _;rw [ahead_len (by omega)]
  congr 1
  rw [decide_eq_decide];omega
 ·have h1' := h1;(try simp only [bps] at h1);refine c_skip ?_;refine x_next<|c_seq<|c_seq<|c_region ?_;refine la ?_;refine l_end<|x_next<|c_block ?_;refine c_loop (ι := Nat) (fun i => [(0, true, .slice A m c), (1, true, .slice B k d), (5, true, .int .i64 ((i : Nat) : Int))]) (fun i => []) (fun i => []) (fun _ => H) (fun i => i ≤ xs.length ∧ BS.lexlt xs ys = BS.lexlt (xs.drop i) (ys.drop i)) (fun i => xs.length - i) 0 (⟨Nat.zero_le _, by simp⟩) rfl sA (rfl) (rfl) ?_
  rintro i hi2
  (try dsimp only);replace hi2 : i ≤ xs.length ∧ BS.lexlt xs ys = BS.lexlt (xs.drop i) (ys.drop i) := hi2;obtain ⟨hi1, hi2⟩ := hi2;refine c_seq<|c_seq<|c_region ?_;refine lm ?_;refine lm ?_;refine llen ?_;refine llss ?_;refine l_end<|x_next ?_;refine c_if (by rfl) (fun h3 => ?_) (fun h3 => ?_)
  ·have h3' := h3;(try simp only [bps] at h3);refine c_skip ?_;refine x_next<|c_seq<|c_block<|c_seq ?_;refine c_draw [] H ?_;refine a_v 0 rfl [] (p_move .no (by exact e1 rfl)) inM_nil te0 ?_;refine a_v 1 rfl [] (p_move .no (by exact e1 rfl)) inM_nil te0 ?_;refine a_ix 2 rfl hx 0 i rfl .no (by exact e1 rfl) (by exact e1 rfl) (hmx) (fun _ => (by omega)) inM_nil te0 (fun p4 o5 g6 => ?_);refine a_v 3 rfl [] (p_gload 0 g6 .no (by exact e1 rfl)) inM_nil te0 ?_;refine a_v 4 rfl [] (p_move .no (by exact e1 rfl)) inM_nil te0 ?_;refine a_v 5 rfl [] (p_move .no (by exact e1 rfl)) inM_nil te0 ?_;refine a_ix 6 rfl hy 0 i rfl .no (by exact e1 rfl) (by exact e1 rfl) (hmy) (fun _ => (by omega)) inM_nil te0 (fun p7 o8 g9 => ?_);refine a_v 7 rfl [] (p_gload 0 g9 .no (by exact e1 rfl)) inM_nil te0 ?_;refine a_v 8 rfl [] (p_bin .no (by exact e1 rfl) (by exact e1 rfl) (fun _ => r_neq _ _ _ _)) inM_nil te0 ?_;refine a_end ?_
   refine x_next ?_;refine c_if (by rfl) (fun h10 => ?_) (fun h10 => ?_)
   ·have h10' := h10;(try simp only [bps] at h10);refine c_seq ?_;refine c_draw [] H ?_;refine a_v 0 rfl [] (p_move .no (by exact e1 rfl)) inM_nil te0 ?_;refine a_v 1 rfl [] (p_move .no (by exact e1 rfl)) inM_nil te0 ?_;refine a_ix 2 rfl hx 0 i rfl .no (by exact e1 rfl) (by exact e1 rfl) (hmx) (fun _ => (by omega)) inM_nil te0 (fun p11 o12 g13 => ?_);refine a_v 3 rfl [] (p_gload 0 g13 .no (by exact e1 rfl)) inM_nil te0 ?_;refine a_v 4 rfl [] (p_move .no (by exact e1 rfl)) inM_nil te0 ?_;refine a_v 5 rfl [] (p_move .no (by exact e1 rfl)) inM_nil te0 ?_;refine a_ix 6 rfl hy 0 i rfl .no (by exact e1 rfl) (by exact e1 rfl) (hmy) (fun _ => (by omega)) inM_nil te0 (fun p14 o15 g16 => ?_);refine a_v 7 rfl [] (p_gload 0 g16 .no (by exact e1 rfl)) inM_nil te0 ?_;refine a_v 8 rfl [] (p_bin .no (by exact e1 rfl) (by exact e1 rfl) (fun _ => r_lss _ _ _ _)) inM_nil te0 ?_;refine a_v 9 rfl [] (p_assign .no (by exact e1 rfl)) inM_nil te0 ?_
    refine a_end ?_;refine x_next ?_;refine c_ret ?_;refine x_br ?_;refine x_tr ?_;refine x_tr ?_;refine x_br ?_;refine x_tr ?_;refine x_ret (vs := [.bool (decide ((xs.getD i 0) < (ys.getD i 0)))]) rfl ⟨rfl, trivial⟩ ?_;show Value.bool _ = .bool _;rw [ahead_lex (by omega), lex_ne (i := i) (by omega) (by omega) hi2 h10]
   ·have h10' := h10;(try simp only [bps] at h10);refine c_skip ?_;refine x_bn ?_;refine x_next<|c_region ?_;refine lm ?_;refine ladd ?_;refine la ?_;refine l_end ?_;exact x_round (i + 1) (⟨by omega, lex_eq (by omega) (by omega) hi2 (Decidable.not_not.1 h10)⟩) (by first | omega | (dsimp only; omega)) rfl (sub_cons rfl (sub_cons rfl (sub_int rfl (by first | rfl | omega | (simp; done)) (sub_nil _)))) (rfl) (rfl)
  ·have h3' := h3;(try simp only [bps] at h3);refine c_exit ?_;refine x_te ?_;refine x_te ?_;refine x_be ?_;refine x_next<|c_seq<|c_region ?_;refine la ?_;refine l_end<|x_next ?_;refine c_ret ?_;refine x_ret (vs := [.bool false]) rfl ⟨rfl, trivial⟩ ?_;show Value.bool _ = .bool _;obtain rfl : i = xs.length := by omega
   rw [ahead_lex (by omega), hi2, List.drop_length, show ys.drop xs.length = [] from List.drop_eq_nil_of_le (by omega)];rfl
end Go.Proofs.YtoakoffdjeleoaaGreat
end
section
namespace BS
theorem place_at {x : List Int} : ∀ {L : List (List Int)} {i : Nat}, i ≤ L.length → (∀ j, j < i → ahead (L.getD j []) x = true) → (i < L.length → ahead (L.getD i []) x = false) → place L x = if i < L.length ∧ L.getD i [] = x then L else L.take i ++ x :: L.drop i := by
  intro L
  induction L with
  | nil => intro i hi _ _; obtain rfl : i = 0 := by simpa using hi
           simp [place]
  | cons y L ih =>
    intro i hi h0 h1
    cases i with
    | zero =>
      have h2 : ahead y x = false := by simpa using h1 (by simp)
      rw [place, if_neg (by rw [h2]; decide)]
      by_cases e : y = x
      · rw [if_pos e, if_pos ⟨by simp, by simpa using e⟩]
      · rw [if_neg e, if_neg (by simp [e])]; simp
    | succ i =>
      have h2 : ahead y x = true := by simpa using h0 0 (by omega)
      rw [place, if_pos h2, ih (i := i) (by simpa using hi) (fun j hj => by simpa using h0 (j + 1) (by omega)) (fun h => by simpa using h1 (by simpa using h))]
      by_cases e : i < L.length ∧ L.getD i [] = x
      · rw [if_pos e, if_pos ⟨by simpa using e.1, by simpa using e.2⟩]
      · rw [if_neg e, if_neg (by simpa using e)]; simp
theorem place_same {x : List Int} {L : List (List Int)} {i : Nat} (hi : i < L.length) (h0 : ∀ j, j < i → ahead (L.getD j []) x = true) (h2 : L.getD i [] = x) : place L x = L := by
  rw [place_at (i := i) (by omega) h0 (fun _ => by rw [h2]; exact ahead_irrefl x), if_pos ⟨hi, h2⟩]
theorem place_new {x : List Int} {L : List (List Int)} {i : Nat} (hi : i ≤ L.length) (h0 : ∀ j, j < i → ahead (L.getD j []) x = true) (h1 : i < L.length → ahead (L.getD i []) x = false) (h2 : i < L.length → ¬ L.getD i [] = x) : place L x = L.take i ++ [x] ++ L.drop i := by
  rw [place_at hi h0 h1, if_neg (fun h => h2 h.1 h.2)]; simp
def minTo (F : List (List Int)) (x : List Int) (j : Nat) : Bool := (F.take j).all fun y => !(partB y x) || decide (y.length = x.length)
theorem minTo_succ {F : List (List Int)} {x : List Int} {j : Nat} (hj : j < F.length) : minTo F x (j + 1) = (minTo F x j && (!(partB (F.getD j []) x) || decide ((F.getD j []).length = x.length))) := by
  unfold minTo
  rw [take_succ_getD F [] hj, List.all_append]; simp
def minAll (F : List (List Int)) (x : List Int) : Bool := minTo F x F.length
theorem minAll_is {F : List (List Int)} (hF : Sets F) {x : List Int} (hx : x ∈ F) : minAll F x = F.all fun y => !(partB y x) || y == x := by
  unfold minAll minTo
  rw [List.take_length, Bool.eq_iff_iff, List.all_eq_true, List.all_eq_true]
  refine forall_congr' fun y => forall_congr' fun hy => ?_
  by_cases e : y = x
  · subst e; simp
  · have h1 : ∀ (_ : partB y x = true), ¬ y.length = x.length := fun h h2 => e (part_same_length (hF y hy) (hF x hx) (partB_iff.1 h) h2)
    cases hp : partB y x with
    | false => simp
    | true => simp [e, h1 hp]
def pickTo (F : List (List Int)) (p : List Int → Bool) (i : Nat) : List (List Int) := ((F.take i).filter p).foldl place []
theorem pick_zero (F : List (List Int)) (p : List Int → Bool) : pickTo F p 0 = [] := rfl
theorem pick_pos {F : List (List Int)} {p : List Int → Bool} {i : Nat} (hi : i < F.length) (h : p (F.getD i []) = true) : pickTo F p (i + 1) = place (pickTo F p i) (F.getD i []) := by
  unfold pickTo
  rw [take_succ_getD F [] hi, List.filter_append, List.foldl_append]; simp only [List.filter_cons, h, if_true, List.filter_nil, List.foldl_cons, List.foldl_nil]
theorem pick_neg {F : List (List Int)} {p : List Int → Bool} {i : Nat} (hi : i < F.length) (h : p (F.getD i []) = false) : pickTo F p (i + 1) = pickTo F p i := by
  unfold pickTo
  rw [take_succ_getD F [] hi, List.filter_append]; simp [List.filter_cons, ← List.getD_eq_getElem?_getD, h]
theorem pick_length (F : List (List Int)) (p : List Int → Bool) (i : Nat) : (pickTo F p i).length ≤ i := by
  have pl : ∀ (L : List (List Int)) (x : List Int), (place L x).length ≤ L.length + 1 := fun L x => by
    induction L with
    | nil => simp [place]
    | cons y L ih2 =>
      unfold place
      split
      · simp; omega
      · split <;> simp
  have : ∀ (K L : List (List Int)), (K.foldl place L).length ≤ L.length + K.length := by
    intro K
    induction K with
    | nil => intro L; simp
    | cons x K ih =>
      intro L
      have h1 := ih (place L x)
      have h2 := pl L x
      rw [List.foldl_cons, List.length_cons]; omega
  have h1 := this ((F.take i).filter p) []
  have h2 := List.length_filter_le p (F.take i)
  rw [List.length_take] at h2
  unfold pickTo
  simp only [List.length_nil] at h1
  omega
theorem pick_min {F : List (List Int)} (hF : Sets F) : pickTo F (minAll F) F.length = minimalF F := by
  unfold pickTo minimalF
  rw [List.take_length]
  congr 1
  exact List.filter_congr fun x hx => minAll_is hF hx
def nums (n : Nat) : List Int := (List.range n).map fun k => ((k : Nat) : Int) + 1
def univTo (F : List (List Int)) (n : Nat) : List Int := (nums n).filter fun x => F.any fun s => decide (x ∈ s)
theorem nums_succ (n : Nat) : nums (n + 1) = nums n ++ [((n : Nat) : Int) + 1] := by simp [nums, List.range_succ]
theorem univ_pos {F : List (List Int)} {n : Nat} (h : (F.any fun s => decide (((n : Nat) : Int) + 1 ∈ s)) = true) : univTo F (n + 1) = univTo F n ++ [((n : Nat) : Int) + 1] := by
  unfold univTo; rw [nums_succ, List.filter_append]; simp only [List.filter_cons, h, if_true, List.filter_nil]
theorem univ_neg {F : List (List Int)} {n : Nat} (h : (F.any fun s => decide (((n : Nat) : Int) + 1 ∈ s)) = false) : univTo F (n + 1) = univTo F n := by
  unfold univTo; rw [nums_succ, List.filter_append]; simp only [List.filter_cons, h, List.filter_nil, List.append_nil]; simp
theorem univ_length (F : List (List Int)) (n : Nat) : (univTo F n).length ≤ n := by
  have := List.length_filter_le (fun x => F.any fun s => decide (x ∈ s)) (nums n)
  unfold univTo; simpa [nums] using this
theorem mem_nums {n : Nat} {x : Int} : x ∈ nums n ↔ 1 ≤ x ∧ x ≤ n := by
  unfold nums
  rw [List.mem_map]
  constructor
  · rintro ⟨k, hk, rfl⟩
    have := List.mem_range.1 hk
    omega
  · intro h; exact ⟨(x - 1).toNat, List.mem_range.2 (by omega), by omega⟩
theorem nums_set (n : Nat) : IsSet (nums n) := by
  induction n with
  | zero => exact List.Pairwise.nil
  | succ n ih =>
    rw [nums_succ]
    refine List.pairwise_append.2 ⟨ih, List.pairwise_singleton _ _, fun a ha b hb => ?_⟩
    rw [List.mem_singleton.1 hb]
    have := (mem_nums.1 ha).2
    omega
theorem univ_is {F : List (List Int)} (h : GoodF F) : univTo F 64 = membersL F := by
  refine set_ext (List.Pairwise.filter _ (nums_set 64)) (members_set F) fun x => ?_
  unfold univTo
  rw [List.mem_filter, mem_members, mem_nums, List.any_eq_true]
  constructor
  · rintro ⟨_, s, hs, hx⟩; exact ⟨s, hs, by simpa using hx⟩
  · rintro ⟨s, hs, hx⟩; exact ⟨by have := h.el s hs x hx; omega, s, hs, by simpa using hx⟩
def hitTo (F : List (List Int)) (s : List Int) (k : Nat) : Bool := hitsB s F && (List.range k).all fun i => !(hitsB (s.take i ++ s.drop (i + 1)) F)
theorem hitTo_zero (F : List (List Int)) (s : List Int) : hitTo F s 0 = hitsB s F := by simp [hitTo]
theorem hitTo_succ (F : List (List Int)) (s : List Int) (k : Nat) : hitTo F s (k + 1) = (hitTo F s k && !(hitsB (s.take k ++ s.drop (k + 1)) F)) := by
  unfold hitTo; rw [List.range_succ, List.all_append, Bool.and_assoc]; simp
def hitAll (F : List (List Int)) (s : List Int) : Bool := hitTo F s s.length
theorem hitAll_is {F : List (List Int)} {s : List Int} (hs : IsSet s) : hitAll F s = true ↔ MinHit F s := by
  unfold hitAll hitTo MinHit
  rw [Bool.and_eq_true, List.all_eq_true, hitsB_iff]
  constructor
  · rintro ⟨h1, h2⟩
    refine ⟨hs, h1, fun i hi h => ?_⟩
    have := h2 i (List.mem_range.2 hi)
    rw [← List.eraseIdx_eq_take_drop_succ, hitsB_iff.2 h] at this
    cases this
  · rintro ⟨_, h1, h2⟩
    refine ⟨h1, fun i hi => ?_⟩
    have h3 := h2 i (List.mem_range.1 hi)
    cases e : hitsB (s.take i ++ s.drop (i + 1)) F with
    | false => rfl
    | true => rw [← List.eraseIdx_eq_take_drop_succ] at e; exact absurd (hitsB_iff.1 e) h3
theorem subs_hit {F : List (List Int)} {U : List Int} (hU : IsSet U) (hF : ∀ l ∈ F, Part l U) : IsHitting F (pickTo (subsetsL U) (hitAll F) (subsetsL U).length) := by
  have h := foldl_place ((subsetsL U).filter (hitAll F)) [] List.Pairwise.nil
  unfold pickTo
  rw [List.take_length]
  refine ⟨h.1, fun x => ?_⟩
  rw [h.2 x, List.mem_filter, mem_subs hU]
  constructor
  · rintro (⟨⟨h1, h2⟩, h3⟩ | h1)
    · exact (hitAll_is h1).1 h3
    · cases h1
  · intro hx
    exact .inl ⟨⟨hx.1, minhit_part hF hx⟩, (hitAll_is hx.1).2 hx⟩
theorem subs_hit_is {F : List (List Int)} (h : famE F = 0) : pickTo (subsetsL (membersL F)) (hitAll F) (subsetsL (membersL F)).length = hitL (minimalF F) :=
  (subs_hit (members_set F) fun _ hl => part_members hl).unique (hitL_good h)
theorem subB_length (l : List Int) (n : Nat) : (subB l n).length ≤ l.length := subTo_length _ _ _
theorem subs_getD {U : List Int} {i : Nat} (h : i < 2 ^ U.length) : (subsetsL U).getD i [] = subB U i := by
  unfold subsetsL
  rw [List.getD_eq_getElem?_getD, List.getElem?_map, List.getElem?_range h]; rfl
end BS
end
section
set_option maxRecDepth 4000
set_option maxHeartbeats 4000000
namespace Go.Proofs.YtoakoffdjeleoaaGreat
open Go.RowKit Go.Shelf
attribute [local irreducible] BS.narrow BS.lookL BS.findE BS.findR BS.volMax BS.parts BS.checkP BS.solE BS.solR BS.solveR BS.furtherR BS.onlyP BS.decideP BS.formedB BS.checkB BS.subsetsL BS.onlyB sortI BS.minimalF BS.lightL decB witR leaP BS.growN BS.openB BS.openN BS.famE BS.membersL BS.hitE BS.minX BS.hitX conR conL jugR BS.hitL BS.briefB BS.place BS.ahead BS.partB
theorem rplace_ct {H : Gh} {A : Option Addr} {c m : Nat} (l : List (Sv Int)) (hl : GRow H A c encS 1 l) (hgs : GSets H encI 1 l) (hm : m = l.length) {B : Option Addr} {d k : Nat} (xs : List Int) (hx : GRow H B d encI 1 xs) (hk : k = xs.length) (hn : l.length ≤ 1000000) : Ct Tryz.prog 93 [.slice A m c, .slice B k d] H fun H' v => ∃ A1 c1 M, v = .slice A1 M.length c1 ∧ GRow H' A1 c1 encS 1 M ∧ GSets H' encI 1 M ∧ svs M = BS.place (svs l) xs := by
 subst hm;subst hk;have hbl : l.length ≤ 9223372036854775807 := Nat.le_trans hl.1 hl.2.1;have hbx : xs.length ≤ 9223372036854775807 := Nat.le_trans hx.1 hx.2.1;refine ct_of Tryz.func93 rfl Tryz.ntmps93 rfl fun w0 hw => ?_;refine c_seq<|c_region ?_;refine la ?_;refine l_end<|x_next<|c_seq<|c_region ?_;refine la ?_;refine l_end<|x_next<|c_seq<|c_block ?_;refine c_loop (ι := Nat) (fun i => [(0, true, .slice A l.length c), (1, true, .slice B xs.length d), (4, true, .slice none 0 0), (5, true, .int .i64 ((i : Nat) : Int))]) (fun i => []) (fun i => []) (fun _ => H) (fun i => i ≤ l.length ∧ ∀ j, j < i → BS.ahead ((svs l).getD j []) xs = true) (fun i => l.length - i) 0 (⟨Nat.zero_le _, fun j h => by omega⟩) rfl sA (rfl) (rfl) ?_
 rintro i hi1
 (try dsimp only);replace hi1 : i ≤ l.length ∧ ∀ j, j < i → BS.ahead ((svs l).getD j []) xs = true := hi1;obtain ⟨hi1, hi2⟩ := hi1;refine c_seq<|c_seq<|c_region ?_;refine lm ?_;refine lm ?_;refine llen ?_;refine llss ?_;refine lm ?_;refine l_v (p_move (by exact .yes rfl rfl) (by exact e1 rfl)) ?_;refine l_v (p_move (by exact .yes rfl rfl) (by exact e1 rfl)) ?_;refine l_ixg hl zS i rfl (by exact .yes rfl rfl) (by exact e2 rfl) (by exact e2 rfl) (by rfl) (fun hb => (by simp only [bps] at hb; omega)) (fun p2 o3 g4 => ?_);refine l_v (p_gload 0 g4 (by exact .yes rfl rfl) (by exact e2 rfl)) ?_;refine l_v (p_move (by exact .yes rfl rfl) (by exact e1 rfl)) ?_;refine l_x (x_calle (vs := [.slice (l.getD i zS).A (l.getD i zS).l.length (l.getD i zS).c, .slice B xs.length d]) (by exact .yes rfl rfl) ⟨(by exact e2 rfl), (by exact e2 rfl), trivial⟩ (fun hb => rahead_cv (l.getD i zS).l (gs_at hgs (i) zS (by first | omega | (simp only [decide_eq_true_eq] at hb; omega))) rfl xs hx rfl) (k := ?_))
 refine l_v (p_and (by rfl) (by rfl)) ?_;refine l_end<|x_next ?_;refine c_if (by rfl) (fun h5 => ?_) (fun h5 => ?_)
 ·have h5' := h5;(try simp only [bps] at h5);refine c_skip ?_;refine x_next<|c_block<|c_region ?_;refine lm ?_;refine ladd ?_;refine la ?_;refine l_end ?_;refine x_bn ?_;exact x_round (i + 1) (⟨by omega, fun j hj => by by_cases e : j < i; exact hi2 j e; obtain rfl : j = i := (by omega); rw [svl_getD]; exact h5.2⟩) (by first | omega | (dsimp only; omega)) rfl (sub_cons rfl (sub_cons rfl (sub_cons rfl (sub_int rfl (by first | rfl | omega | (simp; done)) (sub_nil _))))) (rfl) (rfl)
 ·have h5' := h5;(try simp only [bps] at h5);refine c_exit ?_;refine x_te ?_;refine x_te ?_;refine x_be ?_;refine x_next<|c_seq<|c_seq ?_;have hna : i < l.length → BS.ahead ((svs l).getD i []) xs = false := fun q9 => by rw [svl_getD]; rcases h5 with e | e; omega; exact e
  have hls : (svs l).length = l.length := List.length_map _;refine c_region ?_;refine lm ?_;refine lm ?_;refine llen ?_;refine llss ?_;refine lm ?_;refine l_v (p_move (by exact .yes rfl rfl) (by exact e1 rfl)) ?_;refine l_v (p_move (by exact .yes rfl rfl) (by exact e1 rfl)) ?_;refine l_ixg hl zS i rfl (by exact .yes rfl rfl) (by exact e2 rfl) (by exact e2 rfl) (by rfl) (fun hb => (by simp only [bps] at hb; omega)) (fun p6 o7 g8 => ?_);refine l_v (p_gload 0 g8 (by exact .yes rfl rfl) (by exact e2 rfl)) ?_;refine l_v (p_move (by exact .yes rfl rfl) (by exact e1 rfl)) ?_;refine l_x (x_calle (vs := [.slice (l.getD i zS).A (l.getD i zS).l.length (l.getD i zS).c, .slice B xs.length d]) (by exact .yes rfl rfl) ⟨(by exact e2 rfl), (by exact e2 rfl), trivial⟩ (fun hb => same_cv (l.getD i zS).l xs (gs_at hgs (i) zS (by first | omega | (simp only [decide_eq_true_eq] at hb; omega))) hx rfl rfl) (k := ?_))
  refine l_v (p_and (by rfl) (by rfl)) ?_;refine l_end<|x_next ?_;refine c_if (by rfl) (fun h9 => ?_) (fun h9 => ?_)
  ·have h9' := h9;(try simp only [bps] at h9);refine c_seq<|c_region ?_;refine lm ?_;refine la ?_;refine l_end<|x_next ?_;refine c_ret ?_;refine x_tr ?_;refine x_ret (vs := [.slice A l.length c]) rfl ⟨rfl, trivial⟩ ?_;exact ⟨A, c, l, rfl, hl, hgs, (BS.place_same (i := i) (by rw [hls]; omega) hi2 (by rw [svl_getD]; exact h9.2)).symm⟩
  ·have h9' := h9;(try simp only [bps] at h9);refine c_skip ?_;refine x_next<|c_seq<|c_region ?_;refine la ?_;refine l_end<|x_next<|c_seq<|c_region ?_;refine lm ?_;refine lm ?_;refine lm ?_;refine l_v (p_slh .no (by exact e1 rfl) (by exact e1 rfl) (fun _ => (by have e9 := hl.1; omega))) ?_;refine k_nilrow 51 1 (encS (α := Int)) ?_;have gs13 : GSets H encI 1 (l.take i) := (gs_take hgs _);refine l_x (x_appg 0 (grow_take hl i) (fun A11 c12 => ?_) (hm := Eq.symm (by rw [List.length_take]; first | done | omega)) (hb := by first | omega | (simp only [List.length_nil, List.length_append, List.length_take, List.length_drop, List.length_cons] at *; omega)) (hb' := by first | omega | (simp only [List.length_nil, List.length_append, List.length_take, List.length_drop, List.length_cons] at *; omega)));refine la ?_;refine l_end<|x_next<|c_seq<|c_region ?_;refine lm ?_;refine lm ?_;refine l_x (x_bs [(0, .slice B xs.length d)] ([.slice B xs.length d]) (by kernel_rfl) (by simp [ev, eget, Nat.beq]) (k' := fun m14 hm15 => ?_))
   have gs18 : GSets H encI 1 ((l.take i) ++ [(⟨B, d, xs⟩ : Sv Int)]) := gs_snoc gs13 hx;refine l_x (x_app1 0 0 [(⟨B, d, xs⟩ : Sv Int)] (fun A16 c17 => ?_) (hb := by first | omega | (simp only [List.length_nil, List.length_append, List.length_take, List.length_drop, List.length_cons] at *; omega)) (hb' := by first | omega | (simp only [List.length_nil, List.length_append, List.length_take, List.length_drop, List.length_cons] at *; omega)));refine la ?_;refine l_end<|x_next<|c_seq<|c_region ?_;refine lm ?_;refine lm ?_;refine lm ?_;refine l_v (p_sll i (by first | rfl | (push_cast; rfl) | omega) .no (by exact e1 rfl) (by exact e1 rfl) (fun _ => (by have e9 := hl.1; omega))) ?_;have gs21 : GSets H encI 1 (((l.take i) ++ [(⟨B, d, xs⟩ : Sv Int)]) ++ (l.drop i)) := gs_app gs18 (gs_drop hgs _);refine l_x (x_appg 0 (grow_drop hl i) (fun A19 c20 => ?_) (hm := Eq.symm (by rw [List.length_drop]; first | done | omega)) (hb := by first | omega | (simp only [List.length_nil, List.length_append, List.length_take, List.length_drop, List.length_cons] at *; omega)) (hb' := by first | omega | (simp only [List.length_nil, List.length_append, List.length_take, List.length_drop, List.length_cons] at *; omega)))
   refine la ?_;refine l_end<|x_next ?_;refine c_ret ?_;refine k_frz 0 (fun H22 le23 gr24 => ?_);refine x_ret (vs := [.slice A19 (((l.take i) ++ [(⟨B, d, xs⟩ : Sv Int)]) ++ (l.drop i)).length c20]) rfl ⟨rfl, trivial⟩ ?_;refine ⟨_, _, _, rfl, gr24, (gs_le gs21 le23), ?_⟩;rw [BS.place_new (i := i) (by rw [hls]; exact hi1) hi2 (fun q9 => hna (by rw [hls] at q9; exact q9)) (fun q9 => by rw [hls] at q9; rw [svl_getD]; exact fun e => by have h8 := h9; rcases h8 with h8 | h8; omega; exact h8 e)];unfold svs;rw [List.map_append, List.map_append, List.map_take, List.map_drop];rfl
end Go.Proofs.YtoakoffdjeleoaaGreat
end
section
set_option maxRecDepth 4000
set_option maxHeartbeats 4000000
namespace Go.Proofs.YtoakoffdjeleoaaGreat
open Go.RowKit Go.Shelf
attribute [local irreducible] BS.narrow BS.lookL BS.findE BS.findR BS.volMax BS.parts BS.checkP BS.solE BS.solR BS.solveR BS.furtherR BS.onlyP BS.decideP BS.formedB BS.checkB BS.subsetsL BS.onlyB sortI BS.minimalF BS.lightL decB witR leaP BS.growN BS.openB BS.openN BS.famE BS.membersL BS.hitE BS.minX BS.hitX conR conL jugR BS.hitL BS.briefB BS.place BS.ahead BS.partB BS.hitTo BS.subB BS.minTo BS.pickTo
theorem less_cw {H : Gh} {A : Option Addr} {c m : Nat} (xs : List Int) (hx : GRow H A c encI 1 xs) (hmx : m = xs.length) (k : Nat) (hk : k < xs.length) (hn : xs.length ≤ 1000000) : Cw Tryz.prog 135 [.slice A m c, .int .i64 ((k : Nat) : Int)] H 3 1 encI (xs.take k ++ xs.drop (k + 1)).length (xs.take k ++ xs.drop (k + 1)) fun A c => .slice A (xs.take k ++ xs.drop (k + 1)).length c := by
 subst hmx;refine cw_of Tryz.func135 rfl Tryz.ntmps135 rfl fun w0 hw => ?_;refine c_seq<|c_region ?_;refine la ?_;refine l_end<|x_next<|c_seq<|c_region ?_;refine la ?_;refine l_end<|x_next<|c_seq<|c_region ?_;refine lm ?_;refine lm ?_;refine lm ?_;refine l_v (p_slh .no (by exact e1 rfl) (by exact e1 rfl) (fun _ => (by have e9 := hx.1; omega))) ?_;refine k_nilrow 3 1 encI ?_;refine l_x (x_appg 0 (grow_take hx k) (fun A2 c3 => ?_) (hm := Eq.symm (by rw [List.length_take]; first | done | omega)) (hb := by first | omega | (simp only [List.length_nil, List.length_append, List.length_take, List.length_drop, List.length_cons] at *; omega)) (hb' := by first | omega | (simp only [List.length_nil, List.length_append, List.length_take, List.length_drop, List.length_cons] at *; omega)));refine la ?_;refine l_end<|x_next<|c_seq<|c_region ?_;refine lm ?_;refine lm ?_;refine lm ?_;refine ladd ?_;refine l_v (p_sll (((k : Nat) : Int) + 1).toNat (by first | rfl | (push_cast; rfl) | omega) .no (by exact e1 rfl) (by exact e1 rfl) (fun _ => (by have e9 := hx.1; omega))) ?_
 refine l_x (x_appg 0 (grow_drop hx (((k : Nat) : Int) + 1).toNat) (fun A4 c5 => ?_) (hm := Eq.symm (by rw [List.length_drop]; first | done | omega)) (hb := by first | omega | (simp only [List.length_nil, List.length_append, List.length_take, List.length_drop, List.length_cons] at *; omega)) (hb' := by first | omega | (simp only [List.length_nil, List.length_append, List.length_take, List.length_drop, List.length_cons] at *; omega)));refine la ?_;refine l_end<|x_next ?_;refine c_ret ?_;rw [show (((k : Nat) : Int) + 1).toNat = k + 1 by omega];exact x_retw (vs := [_]) 0 rfl ⟨rfl, trivial⟩
theorem chosen_cw {H : Gh} {A : Option Addr} {c m : Nat} (xs : List Int) (hx : GRow H A c encI 1 xs) (hmx : m = xs.length) (q : Nat) (hn : xs.length ≤ 62) (hq : q ≤ 9223372036854775807) : Cw Tryz.prog 94 [.slice A m c, .int .i64 ((q : Nat) : Int)] H 3 1 encI (BS.subB xs q).length (BS.subB xs q) fun A c => .slice A (BS.subB xs q).length c := by
 subst hmx;have hb1 : xs.length ≤ 9223372036854775807 := by omega
 refine cw_of Tryz.func94 rfl Tryz.ntmps94 rfl fun w0 hw => ?_;refine c_seq<|c_region ?_;refine la ?_;refine l_end<|x_next<|c_seq<|c_region ?_;refine la ?_;refine l_end<|x_next<|c_seq<|c_seq<|c_region ?_;refine la ?_;refine l_end<|x_next<|c_block ?_;refine k_nilrow 3 1 encI ?_;refine c_loop (ι := Nat × Option Addr × Nat × List Int) (fun ⟨k, A1, c1, out⟩ => [(0, true, .slice A xs.length c), (1, true, .int .i64 ((q : Nat) : Int)), (4, true, .slice none 0 0), (5, true, .slice A1 out.length c1), (6, true, .int .i64 ((k : Nat) : Int))]) (fun ⟨k, A1, c1, out⟩ => []) (fun ⟨k, A1, c1, out⟩ => [LR A1 out.length c1 3 1 encI out]) (fun _ => H) (fun ⟨k, A1, c1, out⟩ => k ≤ xs.length ∧ out = BS.subTo xs q k) (fun ⟨k, A1, c1, out⟩ => xs.length - k) (0, none, 0, []) (⟨Nat.zero_le _, rfl⟩) rfl (sub_cons rfl (sub_cons rfl (sub_cons rfl (sub_eq rfl (by first | rfl | omega | (simp; done)) sA)))) (rfl) (rfl) ?_
 rintro ⟨k, A1, c1, out⟩ hi2
 (try dsimp only);replace hi2 : k ≤ xs.length ∧ out = BS.subTo xs q k := hi2;obtain ⟨hk1, ho⟩ := hi2;have hol : out.length ≤ k := by rw [ho]; exact BS.subTo_length _ _ _
 refine c_seq<|c_seq<|c_region ?_;refine lm ?_;refine lm ?_;refine llen ?_;refine llss ?_;refine l_end<|x_next ?_;refine c_if (by rfl) (fun h3 => ?_) (fun h3 => ?_)
 ·have h3' := h3;(try simp only [bps] at h3);refine c_skip ?_;refine x_next<|c_seq<|c_block<|c_seq<|c_region ?_;refine lm ?_;refine lm ?_;refine l_v (p_bin .no (by exact e1 rfl) (by exact e1 rfl) (fun _ => r_shr _ (by omega))) ?_;refine l_v (p_bin .no (by exact e1 rfl) (by exact e1 rfl) (fun _ => r_and1 _ (by have h9 := Int.ediv_nonneg (show (0 : Int) ≤ ((q : Nat) : Int) by omega) (Int.le_of_lt (p2_pos k)); have h8 := Int.ediv_le_self (2 ^ k) (show (0 : Int) ≤ ((q : Nat) : Int) by omega); simp only [Int.toNat_natCast]; omega))) ?_;refine leql ?_;refine l_end<|x_next ?_;refine c_if (by rfl) (fun h4 => ?_) (fun h4 => ?_)
  ·have h4' := h4;(try simp only [bps] at h4);refine c_region ?_;refine lm ?_;refine lm ?_;refine lm ?_;refine lix hx 0 k (fun p5 o6 g7 => ?_);refine lg 0 g7 ?_;refine l_x (x_bs [(0, .int .i64 (xs.getD k 0))] ([.int .i64 (xs.getD k 0)]) (by kernel_rfl) (by simp [ev, eget, Nat.beq]) (k' := fun m8 hm9 => ?_));refine l_x (x_app1 0 0 [(xs.getD k 0)] (fun A10 c11 => ?_));refine la ?_;refine l_end ?_;refine x_bn ?_;refine x_next<|c_region ?_;refine lm ?_;refine ladd ?_;refine la ?_;refine l_end ?_;refine k_forget (.cons _ .slnil) (.refl _) ?_;exact x_round ((k + 1), A10, c11, (out ++ [(xs.getD k 0)])) (⟨by omega, by rw [BS.subTo_pos (show BS.bitB q k = true from by unfold BS.bitB; simpa using h4'), ← ho]⟩) (by first | omega | (dsimp only; omega)) rfl (sub_cons rfl (sub_cons rfl (sub_cons rfl (sub_cons rfl (sub_int rfl (by first | rfl | omega | (simp; done)) (sub_nil _)))))) (rfl) (rfl)
  ·have h4' := h4;(try simp only [bps] at h4);refine c_skip ?_;refine x_bn ?_;refine x_next<|c_region ?_;refine lm ?_;refine ladd ?_;refine la ?_;refine l_end ?_;exact x_round ((k + 1), A1, c1, out) (⟨by omega, by rw [BS.subTo_neg (show BS.bitB q k = false from by unfold BS.bitB; simpa using h4'), ← ho]⟩) (by first | omega | (dsimp only; omega)) rfl (sub_cons rfl (sub_cons rfl (sub_cons rfl (sub_cons rfl (sub_int rfl (by first | rfl | omega | (simp; done)) (sub_nil _)))))) (rfl) (rfl)
 ·have h3' := h3;(try simp only [bps] at h3);refine c_exit ?_;refine x_te ?_;refine x_te ?_;refine x_be ?_;refine x_next<|c_seq<|c_region ?_;refine lm ?_;refine la ?_;refine l_end<|x_next ?_;refine c_ret ?_;obtain rfl : k = xs.length := by omega
  have hoB : out = BS.subB xs q := by unfold BS.subB; exact ho
  subst hoB;exact x_retw (vs := [_]) 0 rfl ⟨rfl, trivial⟩
end Go.Proofs.YtoakoffdjeleoaaGreat
end
section
set_option maxRecDepth 4000
set_option maxHeartbeats 4000000
namespace Go.Proofs.YtoakoffdjeleoaaGreat
open Go.RowKit Go.Shelf
attribute [local irreducible] BS.narrow BS.lookL BS.findE BS.findR BS.volMax BS.parts BS.checkP BS.solE BS.solR BS.solveR BS.furtherR BS.onlyP BS.decideP BS.formedB BS.checkB BS.subsetsL BS.onlyB sortI BS.minimalF BS.lightL decB witR leaP BS.growN BS.openB BS.openN BS.famE BS.membersL BS.hitE BS.minX BS.hitX conR conL jugR BS.hitL BS.briefB BS.place BS.ahead BS.partB BS.hitTo BS.subB BS.minTo BS.pickTo BS.hitAll
theorem rhitting_ct {H : Gh} {A : Option Addr} {c m : Nat} (l : List (Sv Int)) (hl : GRow H A c encS 1 l) (hgs : GSets H encI 1 l) (hm : m = l.length) {B : Option Addr} {d k : Nat} (us : List Int) (hu : GRow H B d encI 1 us) (hmu : k = us.length) (hn : us.length ≤ 8) : Ct Tryz.prog 103 [.slice B k d, .slice A m c] H fun H' v => ∃ A1 c1 M, v = .slice A1 M.length c1 ∧ GRow H' A1 c1 encS 1 M ∧ GSets H' encI 1 M ∧ svs M = BS.pickTo (BS.subsetsL us) (BS.hitAll (svs l)) (BS.subsetsL us).length := by
 subst hmu;have hbl : l.length ≤ 9223372036854775807 := Nat.le_trans hl.1 hl.2.1;refine ct_of Tryz.func103 rfl Tryz.ntmps103 rfl fun w0 hw => ?_;refine c_seq<|c_region ?_;refine la ?_;refine l_end<|x_next<|c_seq<|c_region ?_;refine la ?_;refine l_end<|x_next<|c_seq<|c_seq<|c_region ?_;refine la ?_;refine l_end<|x_next<|c_block ?_;have hp8 : 2 ^ us.length ≤ 2 ^ 8 := Nat.pow_le_pow_right (by decide) hn;have hp62 := p2_bd us.length (by omega);have hpc : ((2 ^ us.length : Nat) : Int) = (2 : Int) ^ us.length := by push_cast; rfl
 have htn : ((us.length : Nat) : Int).toNat = us.length := Int.toNat_natCast _;refine c_loop (ι := Nat × Gh × Option Addr × Nat × List (Sv Int)) (fun ⟨i, Hz, A1, c1, L1⟩ => [(0, true, .slice B us.length d), (1, true, .slice A m c), (4, true, .slice none 0 0), (5, true, .slice A1 L1.length c1), (6, true, .int .i64 ((i : Nat) : Int))]) (fun ⟨i, Hz, A1, c1, L1⟩ => []) (fun ⟨i, Hz, A1, c1, L1⟩ => []) (fun ⟨i, Hz, A1, c1, L1⟩ => Hz) (fun ⟨i, Hz, A1, c1, L1⟩ => i ≤ 2 ^ us.length ∧ Gh.Le H Hz ∧ GRow Hz A1 c1 encS 1 L1 ∧ GSets Hz encI 1 L1 ∧ svs L1 = BS.pickTo (BS.subsetsL us) (BS.hitAll (svs l)) i) (fun ⟨i, Hz, A1, c1, L1⟩ => 2 ^ us.length - i) (0, H, none, 0, []) (⟨Nat.zero_le _, Gh.Le.refl _, GRow.nil _ _ _, gs_nil, (BS.pick_zero _ _).symm⟩) rfl (sub_cons rfl (sub_cons rfl (sub_cons rfl (sub_eq rfl (by first | rfl | omega | (simp; done)) sA)))) (rfl) (rfl) ?_
 rintro ⟨i, Hz, A1, c1, L1⟩ hi1
 (try dsimp only);replace hi1 : i ≤ 2 ^ us.length ∧ Gh.Le H Hz ∧ GRow Hz A1 c1 encS 1 L1 ∧ GSets Hz encI 1 L1 ∧ svs L1 = BS.pickTo (BS.subsetsL us) (BS.hitAll (svs l)) i := hi1;obtain ⟨hi1, hz1, hL1, hL2, hLs⟩ := hi1;have hLl : L1.length ≤ i := by have e9 := congrArg List.length hLs; rw [List.length_map] at e9; rw [e9]; exact BS.pick_length _ _ _
 have hsl8 : (BS.subB us i).length ≤ 8 := Nat.le_trans (BS.subB_length _ _) hn;refine c_seq<|c_seq<|c_region ?_;refine lm ?_;refine lm ?_;refine llen ?_;refine l_v (p_bin .no (by exact e1 rfl) (by exact e1 rfl) (fun _ => r_shl _ (by omega))) ?_;refine llss ?_;refine l_end<|x_next ?_;refine c_if (by rfl) (fun h2 => ?_) (fun h2 => ?_)
 ·have h2' := h2;(try simp only [bps] at h2);refine c_skip ?_;refine x_next<|c_seq<|c_block<|c_seq ?_;have hib : i < 2 ^ us.length := by have h9 := h2; simp only [Int.toNat_natCast] at h9; omega
  refine c_region ?_;refine lm ?_;refine lm ?_;refine l_x (x_callw (vs := [.slice B us.length d, .int .i64 ((i : Nat) : Int)]) (chosen_cw us (hu.le hz1) rfl i (by omega) (by omega)) (fun A3 c4 => ?_) (hx := ⟨(by exact e1 rfl), (by exact e1 rfl), trivial⟩));refine la ?_;refine l_end<|x_next<|c_seq<|c_region ?_;refine lm ?_;refine lm ?_;refine l_x (x_callb (vs := [.slice A3 (BS.subB us i).length c4, .slice A m c]) 0 (fun H' le' hL => rhits_cv (BS.subB us i) hL rfl l ((hl.le hz1).le le') (gs_le (gs_le hgs hz1) le') hm) ?_ (hx := ⟨(by exact e1 rfl), (by exact e1 rfl), trivial⟩));refine la ?_;refine l_end<|x_next<|c_seq<|c_seq<|c_region ?_;refine la ?_;refine l_end<|x_next<|c_block ?_;refine c_loop (ι := Nat) (fun k => [(0, true, .slice B us.length d), (1, true, .slice A m c), (4, true, .slice none 0 0), (5, true, .slice A1 L1.length c1), (6, true, .int .i64 ((i : Nat) : Int)), (7, true, .slice A3 (BS.subB us i).length c4), (8, true, .bool (BS.hitTo (svs l) (BS.subB us i) k)), (9, true, .int .i64 ((k : Nat) : Int))]) (fun k => []) (fun k => [LR A3 (BS.subB us i).length c4 3 1 encI (BS.subB us i)]) (fun _ => Hz) (fun k => k ≤ (BS.subB us i).length) (fun k => (BS.subB us i).length - k) 0 (Nat.zero_le _) rfl (sub_cons rfl (sub_cons rfl (sub_cons rfl (sub_cons rfl (sub_cons rfl (sub_cons rfl (sub_eq rfl (by first | rfl | (rw [BS.hitTo_zero]) | (rw [BS.hitTo_succ, h2']; first | done | rfl | simp)) sA))))))) (rfl) (rfl) ?_
  rintro k hi6
  (try dsimp only);replace hi6 : k ≤ (BS.subB us i).length := hi6;refine c_seq<|c_seq<|c_region ?_;refine lm ?_;refine lm ?_;refine llen ?_;refine llss ?_;refine l_end<|x_next ?_;refine c_if (by rfl) (fun h7 => ?_) (fun h7 => ?_)
  ·have h7' := h7;(try simp only [bps] at h7);refine c_skip ?_;refine x_next<|c_seq<|c_block ?_;rcases Bool.eq_false_or_eq_true (BS.hitTo (svs l) (BS.subB us i) k) with h8 | h8
   ·rw [h8];refine c_region ?_;refine lm ?_;refine lm ?_;refine l_v (p_move (.yes (c := true) rfl rfl) (by exact e1 rfl)) ?_;refine l_v (p_move (.yes (c := true) rfl rfl) (by exact e1 rfl)) ?_;refine l_x (x_gd (.yes (c := true) rfl rfl) (x_callwb (T' := 3) (k₂ := 1) (enc' := encI) (m' := (((BS.subB us i)).take k ++ ((BS.subB us i)).drop (k + 1)).length) (L' := (((BS.subB us i)).take k ++ ((BS.subB us i)).drop (k + 1))) (F := fun A_ c_ => .slice A_ (((BS.subB us i)).take k ++ ((BS.subB us i)).drop (k + 1)).length c_) (A := A3) (m := (BS.subB us i).length) (c := c4) (T := 3) (k := 1) (enc := encI) (L := (BS.subB us i)) (vs := [.slice A3 (BS.subB us i).length c4, .int .i64 ((k : Nat) : Int)]) 0 ?_ (fun A9 c10 => ?_) (hx := ⟨(by exact e1 rfl), (by exact e1 rfl), trivial⟩)))
    ·exact fun H' le' hL => less_cw (BS.subB us i) hL rfl k (by omega) (by omega)
    refine l_v (p_move (.yes (c := true) rfl rfl) (by exact e1 rfl)) ?_;refine l_x (x_gd (.yes (c := true) rfl rfl) (x_callb (vs := [.slice A9 (((BS.subB us i)).take k ++ ((BS.subB us i)).drop (k + 1)).length c10, .slice A m c]) 0 (fun H' le' hL => rhits_cv (((BS.subB us i)).take k ++ ((BS.subB us i)).drop (k + 1)) hL rfl l ((hl.le hz1).le le') (gs_le (gs_le hgs hz1) le') hm) ?_ (hx := ⟨(by exact e1 rfl), (by exact e1 rfl), trivial⟩)));refine l_v (p_not (.yes (c := true) rfl rfl) (by exact e1 rfl)) ?_;refine l_v (p_and (by rfl) (by rfl)) ?_;refine la ?_;refine l_end ?_;refine x_bn ?_;refine x_next<|c_region ?_;refine lm ?_;refine ladd ?_;refine la ?_;refine l_end ?_;refine k_forget (.refl _) (.cons _ (.cons_cons _ .slnil)) ?_;exact x_round (k + 1) (by omega) (by first | omega | (dsimp only; omega)) rfl (sub_cons rfl (sub_cons rfl (sub_cons rfl (sub_cons rfl (sub_cons rfl (sub_cons rfl (sub_eq rfl (by first | rfl | (rw [BS.hitTo_zero]) | (rw [BS.hitTo_succ, h8]; first | done | rfl | simp)) (sub_int rfl (by first | rfl | omega | (simp; done)) (sub_nil _))))))))) (rfl) (rfl)
   ·rw [h8];refine c_region ?_;refine lm ?_;refine lm ?_;refine l_v (p_off (v := .bool false) (.yes (c := false) rfl rfl)) ?_;refine l_v (p_off (v := .bool false) (.yes (c := false) rfl rfl)) ?_;refine l_v (p_off (v := .bool false) (.yes (c := false) rfl rfl)) ?_;refine l_v (p_off (v := .bool false) (.yes (c := false) rfl rfl)) ?_;refine l_v (p_off (v := .bool false) (.yes (c := false) rfl rfl)) ?_;refine l_v (p_off (v := .bool false) (.yes (c := false) rfl rfl)) ?_;refine l_v (p_and (by rfl) (by rfl)) ?_;refine la ?_;refine l_end ?_;refine x_bn ?_;refine x_next<|c_region ?_;refine lm ?_;refine ladd ?_;refine la ?_;refine l_end ?_;exact x_round (k + 1) (by omega) (by first | omega | (dsimp only; omega)) rfl (sub_cons rfl (sub_cons rfl (sub_cons rfl (sub_cons rfl (sub_cons rfl (sub_cons rfl (sub_eq rfl (by first | rfl | (rw [BS.hitTo_zero]) | (rw [BS.hitTo_succ, h8]; first | done | rfl | simp)) (sub_int rfl (by first | rfl | omega | (simp; done)) (sub_nil _))))))))) (rfl) (rfl)
  ·have h7' := h7;(try simp only [bps] at h7);refine c_exit ?_;refine x_te ?_;refine x_te ?_;refine x_be ?_;refine x_next<|c_seq ?_;obtain rfl : k = (BS.subB us i).length := by omega
   have hha : BS.hitAll (svs l) (BS.subB us i) = BS.hitTo (svs l) (BS.subB us i) (BS.subB us i).length := by unfold BS.hitAll; rfl
   refine c_region ?_;refine lm ?_;refine l_end<|x_next ?_;refine c_if (by rfl) (fun h12 => ?_) (fun h12 => ?_)
   ·have h12' := h12;(try simp only [bps] at h12);have hpt : BS.hitAll (svs l) (BS.subB us i) = true := by rw [hha]; exact h12'
    refine k_frz 0 (fun H13 le14 gr15 => ?_);refine c_region ?_;refine lm ?_;refine lm ?_;have hc26 : Ct Tryz.prog 93 [.slice A1 L1.length c1, .slice A3 (BS.subB us i).length c4] H13 _ := rplace_ct L1 (hL1.le le14) (gs_le hL2 le14) rfl (BS.subB us i) gr15 rfl (by omega);refine l_x (x_call .no ?_ (fun _ => hc26) (k := fun H16 v17 le18 r19 => ?_))
    ·exact ⟨(by exact e1 rfl), (by exact e1 rfl), trivial⟩
    obtain ⟨A20, c21, M22, rfl, hf23, hg24, hm25⟩ := r19 rfl;refine la ?_;refine l_end ?_;refine x_bn ?_;refine x_next<|c_region ?_;refine lm ?_;refine ladd ?_;refine la ?_;refine l_end ?_;exact x_round ((i + 1), H16, A20, c21, M22) (⟨by omega, (Gh.Le.trans (Gh.Le.trans hz1 le14) le18), hf23, hg24, by rw [BS.pick_pos (by rw [BS.subs_count]; exact hib) (by rw [BS.subs_getD hib]; exact hpt), BS.subs_getD hib, ← hLs]; exact hm25⟩) (by first | omega | (dsimp only; omega)) rfl (sub_cons rfl (sub_cons rfl (sub_cons rfl (sub_cons rfl (sub_int rfl (by first | rfl | omega | (simp; done)) (sub_nil _)))))) (rfl) (rfl)
   ·have h12' := h12;(try simp only [bps] at h12);refine c_skip ?_;refine x_bn ?_;refine x_next ?_;have hpt : BS.hitAll (svs l) (BS.subB us i) = false := by rw [hha]; exact h12'
    refine c_region ?_;refine lm ?_;refine ladd ?_;refine la ?_;refine l_end ?_;refine k_forget (.refl _) (.cons _ .slnil) ?_;exact x_round ((i + 1), Hz, A1, c1, L1) (⟨by omega, hz1, hL1, hL2, by rw [BS.pick_neg (by rw [BS.subs_count]; exact hib) (by rw [BS.subs_getD hib]; exact hpt)]; exact hLs⟩) (by first | omega | (dsimp only; omega)) rfl (sub_cons rfl (sub_cons rfl (sub_cons rfl (sub_cons rfl (sub_int rfl (by first | rfl | omega | (simp; done)) (sub_nil _)))))) (rfl) (rfl)
 ·have h2' := h2;(try simp only [bps] at h2);refine c_exit ?_;refine x_te ?_;refine x_te ?_;refine x_be ?_;refine x_next<|c_seq<|c_region ?_;refine lm ?_;refine la ?_;refine l_end<|x_next ?_;refine c_ret ?_;refine x_ret (vs := [.slice A1 L1.length c1]) rfl ⟨rfl, trivial⟩ ?_;obtain rfl : i = 2 ^ us.length := by have h9 := h2; simp only [Int.toNat_natCast] at h9; omega
  exact ⟨A1, c1, L1, rfl, hL1, hL2, by rw [hLs, BS.subs_count]⟩
end Go.Proofs.YtoakoffdjeleoaaGreat
end
section
set_option maxRecDepth 4000
set_option maxHeartbeats 4000000
namespace Go.Proofs.YtoakoffdjeleoaaGreat
open Go.RowKit Go.Shelf
attribute [local irreducible] BS.narrow BS.lookL BS.findE BS.findR BS.volMax BS.parts BS.checkP BS.solE BS.solR BS.solveR BS.furtherR BS.onlyP BS.decideP BS.formedB BS.checkB BS.subsetsL BS.onlyB sortI BS.minimalF BS.lightL decB witR leaP BS.growN BS.openB BS.openN BS.famE BS.membersL BS.hitE BS.minX BS.hitX conR conL jugR BS.hitL BS.briefB BS.place BS.ahead BS.partB BS.hitTo BS.subB BS.minTo BS.pickTo BS.hitAll BS.minAll
theorem rminimal_ct {H : Gh} {A : Option Addr} {c m : Nat} (l : List (Sv Int)) (hl : GRow H A c encS 1 l) (hgs : GSets H encI 1 l) (hm : m = l.length) : Ct Tryz.prog 40 [.slice A m c] H fun H' v => ∃ A1 c1 M, v = .agg [.slice A1 M.length c1, .int .i64 (BS.famE (svs l))].toArray ∧ GRow H' A1 c1 encS 1 M ∧ GSets H' encI 1 M ∧ svs M = BS.minX (svs l) := by
 have hbl : l.length ≤ 9223372036854775807 := Nat.le_trans hl.1 hl.2.1;refine ct_of Tryz.func40 rfl Tryz.ntmps40 rfl fun w0 hw => ?_;refine c_seq<|c_region ?_;refine lal (fun m1 hm2 => ?_);refine l_end<|x_next<|c_seq<|c_region ?_;refine lm ?_;refine lcl (rformed_cv l hl hgs hm) ?_;refine la ?_;refine l_end<|x_next<|c_seq<|c_seq<|c_region ?_;refine lm ?_;refine lneq ?_;refine l_end<|x_next ?_;refine c_if (by rfl) (fun h3 => ?_) (fun h3 => ?_)
 ·have h3' := h3;(try simp only [bps] at h3);refine c_seq<|c_region ?_;refine lm ?_;refine lbd (v := .agg [.slice none 0 0, .int .i64 (BS.famE (svs l))].toArray) [(1, .int .i64 (BS.famE (svs l)))] ?_ (fun _ => by kernel_rfl) (by simp [ev, eget, Nat.beq]);refine lst 0 ([.slice none 0 0, .int .i64 (BS.famE (svs l))]) ([.slice none 0 0, .int .i64 (BS.famE (svs l))]) ?_;refine l_end<|x_next ?_;refine c_ret ?_;refine x_tr ?_;refine x_ret (vs := [.agg [.slice none 0 0, .int .i64 (BS.famE (svs l))].toArray]) rfl ⟨rv_cell 0 ([.slice none 0 0, .int .i64 (BS.famE (svs l))]), trivial⟩ ?_;exact ⟨none, 0, [], rfl, GRow.nil _ _ _, gs_nil, by unfold BS.minX; rw [if_neg h3]; rfl⟩
 ·have h3' := h3;(try simp only [bps] at h3);refine c_skip ?_;refine x_next<|c_seq ?_;have hc0 : BS.famE (svs l) = 0 := Decidable.not_not.1 h3;have hgd := BS.fam_good hc0;have hl80 : l.length ≤ 80 := by have e9 := hgd.len; rw [List.length_map] at e9; exact e9
  have hs64 : ∀ s ∈ l, s.l.length ≤ 64 := fun s hs => BS.set_64 (hgd.set _ (List.mem_map_of_mem hs)) (hgd.el _ (List.mem_map_of_mem hs));have hsl : ∀ s ∈ l, s.l.length ≤ 1000000 := fun s hs => Nat.le_trans (hs64 s hs) (by decide);refine c_region ?_;refine lbd (v := .agg [.slice none 0 0, .int .i64 0].toArray) [] ?_ (fun _ => by kernel_rfl) (by simp [ev, eget, Nat.beq]);refine lal (fun m4 hm5 => ?_);refine lst 0 ([.slice none 0 0, .int .i64 0]) ([.slice none 0 0, .int .i64 0]) ?_;refine l_end<|x_next<|c_seq<|c_seq<|c_region ?_;refine la ?_;refine l_end<|x_next<|c_block ?_;refine c_loop (ι := Nat × Gh × Option Addr × Nat × List (Sv Int)) (fun ⟨i, Hz, A1, c1, L1⟩ => [(0, true, .slice A m c), (2, true, .pointer (some ⟨m1, 0, none⟩)), (4, true, .pointer (some ⟨m4, 0, none⟩)), (5, true, .int .i64 ((i : Nat) : Int))]) (fun ⟨i, Hz, A1, c1, L1⟩ => [(m4, .cells ([.slice A1 L1.length c1, .int .i64 0]).toArray 61 (0, 0)), (m1, .cells ([.slice none 0 0, .int .i64 0]).toArray 61 (0, 0))]) (fun ⟨i, Hz, A1, c1, L1⟩ => []) (fun ⟨i, Hz, A1, c1, L1⟩ => Hz) (fun ⟨i, Hz, A1, c1, L1⟩ => i ≤ l.length ∧ Gh.Le H Hz ∧ GRow Hz A1 c1 encS 1 L1 ∧ GSets Hz encI 1 L1 ∧ svs L1 = BS.pickTo (svs l) (BS.minAll (svs l)) i) (fun ⟨i, Hz, A1, c1, L1⟩ => l.length - i) (0, H, none, 0, []) (⟨Nat.zero_le _, Gh.Le.refl _, GRow.nil _ _ _, gs_nil, (BS.pick_zero _ _).symm⟩) rfl sA (rfl) (rfl) ?_
  rintro ⟨i, Hz, A1, c1, L1⟩ hi6
  (try dsimp only);replace hi6 : i ≤ l.length ∧ Gh.Le H Hz ∧ GRow Hz A1 c1 encS 1 L1 ∧ GSets Hz encI 1 L1 ∧ svs L1 = BS.pickTo (svs l) (BS.minAll (svs l)) i := hi6;obtain ⟨hi1, hz1, hL1, hL2, hLs⟩ := hi6;have hLl : L1.length ≤ i := by have e9 := congrArg List.length hLs; rw [List.length_map] at e9; rw [e9]; exact BS.pick_length _ _ _
  refine c_seq<|c_seq<|c_region ?_;refine lm ?_;refine lm ?_;refine llen ?_;refine llss ?_;refine l_end<|x_next ?_;refine c_if (by rfl) (fun h7 => ?_) (fun h7 => ?_)
  ·have h7' := h7;(try simp only [bps] at h7);refine c_skip ?_;refine x_next<|c_seq<|c_block<|c_seq<|c_region ?_;refine la ?_;refine l_end<|x_next<|c_seq<|c_seq<|c_region ?_;refine la ?_;refine l_end<|x_next<|c_block ?_;refine c_loop (ι := Nat) (fun j => [(0, true, .slice A m c), (2, true, .pointer (some ⟨m1, 0, none⟩)), (4, true, .pointer (some ⟨m4, 0, none⟩)), (5, true, .int .i64 ((i : Nat) : Int)), (6, true, .bool (BS.minTo (svs l) (l.getD i zS).l j)), (7, true, .int .i64 ((j : Nat) : Int))]) (fun j => [(m4, .cells ([.slice A1 L1.length c1, .int .i64 0]).toArray 61 (0, 0)), (m1, .cells ([.slice none 0 0, .int .i64 0]).toArray 61 (0, 0))]) (fun j => []) (fun _ => Hz) (fun j => j ≤ l.length) (fun j => l.length - j) 0 (Nat.zero_le _) rfl (sub_cons rfl (sub_cons rfl (sub_cons rfl (sub_cons rfl (sub_eq rfl (by first | rfl | (unfold BS.minTo; rfl) | (rw [BS.minTo_succ (by rw [List.length_map]; omega), svl_getD]; first | rfl | (congr 3; rw [decide_eq_decide]; omega))) sA))))) (rfl) (rfl) ?_
   rintro j hi8
   (try dsimp only);replace hi8 : j ≤ l.length := hi8;refine c_seq<|c_seq<|c_region ?_;refine lm ?_;refine lm ?_;refine llen ?_;refine llss ?_;refine l_end<|x_next ?_;refine c_if (by rfl) (fun h9 => ?_) (fun h9 => ?_)
   ·have h9' := h9;(try simp only [bps] at h9);refine c_skip ?_;refine x_next<|c_seq<|c_block<|c_seq ?_;refine c_draw [] Hz ?_;refine a_v 0 rfl [] (p_move .no (by exact e1 rfl)) inM_nil te0 ?_;refine a_v 1 rfl [] (p_move .no (by exact e1 rfl)) inM_nil te0 ?_;refine a_ix 2 rfl (hl.le hz1) zS j rfl .no (by exact e1 rfl) (by exact e1 rfl) (hm) (fun _ => (by omega)) inM_nil te0 (fun p10 o11 g12 => ?_);refine a_v 3 rfl [] (p_gload 0 g12 .no (by exact e1 rfl)) inM_nil te0 ?_;refine a_v 4 rfl [] (p_move .no (by exact e1 rfl)) inM_nil te0 ?_;refine a_v 5 rfl [] (p_move .no (by exact e1 rfl)) inM_nil te0 ?_;refine a_ix 6 rfl (hl.le hz1) zS i rfl .no (by exact e1 rfl) (by exact e1 rfl) (hm) (fun _ => (by omega)) inM_nil te0 (fun p13 o14 g15 => ?_);refine a_v 7 rfl [] (p_gload 0 g15 .no (by exact e1 rfl)) inM_nil te0 ?_;refine a_one 8 rfl (x_calle (vs := [.slice (l.getD j zS).A (l.getD j zS).l.length (l.getD j zS).c, .slice (l.getD i zS).A (l.getD i zS).l.length (l.getD i zS).c]) .no ⟨(by exact e1 rfl), (by exact e1 rfl), trivial⟩ (fun _ => rpart_cv (l.getD j zS).l ((gs_at hgs (j) zS (by first | omega | (simp only [decide_eq_true_eq] at hb; omega))).le hz1) rfl (l.getD i zS).l ((gs_at hgs (i) zS (by first | omega | (simp only [decide_eq_true_eq] at hb; omega))).le hz1) rfl) (k := ?_))
    refine a_in inM_nil te0 ?_;refine a_v 9 rfl [] (p_assign .no (by exact e1 rfl)) inM_nil te0 ?_;refine a_end ?_;refine x_next ?_;refine c_draw [] Hz ?_;refine a_v 0 rfl [] (p_move .no (by exact e1 rfl)) inM_nil te0 ?_;refine a_v 1 rfl [] (p_move .no (by exact e1 rfl)) inM_nil te0 ?_;refine a_v 2 rfl [] (p_move (by exact .yes rfl rfl) (by exact e1 rfl)) inM_nil te0 ?_;refine a_v 3 rfl [] (p_not (by exact .yes rfl rfl) (by exact e2 rfl)) inM_nil te0 ?_;refine a_v 4 rfl [] (p_move (by exact .yes rfl rfl) (by exact e2 rfl)) inM_nil te0 ?_;refine a_v 5 rfl [] (p_move (by exact .ifn rfl rfl) (by exact e1 rfl)) inM_nil te0 ?_;refine a_v 6 rfl [] (p_move (by exact .ifn rfl rfl) (by exact e1 rfl)) inM_nil te0 ?_;refine a_ix 7 rfl (hl.le hz1) zS j rfl (by exact .ifn rfl rfl) (by exact e2 rfl) (by exact e2 rfl) (hm) (fun hb => (by simp only [bps] at hb; omega)) inM_nil te0 (fun p16 o17 g18 => ?_)
    refine a_v 8 rfl [] (p_gload 0 g18 (by exact .ifn rfl rfl) (by exact e2 rfl)) inM_nil te0 ?_;refine a_v 9 rfl [] (p_len (by exact .ifn rfl rfl) (by exact e2 rfl) Sl.elem) inM_nil te0 ?_;refine a_v 10 rfl [] (p_move (by exact .ifn rfl rfl) (by exact e1 rfl)) inM_nil te0 ?_;refine a_v 11 rfl [] (p_move (by exact .ifn rfl rfl) (by exact e1 rfl)) inM_nil te0 ?_;refine a_ix 12 rfl (hl.le hz1) zS i rfl (by exact .ifn rfl rfl) (by exact e2 rfl) (by exact e2 rfl) (hm) (fun hb => (by simp only [bps] at hb; omega)) inM_nil te0 (fun p19 o20 g21 => ?_);refine a_v 13 rfl [] (p_gload 0 g21 (by exact .ifn rfl rfl) (by exact e2 rfl)) inM_nil te0 ?_;refine a_v 14 rfl [] (p_len (by exact .ifn rfl rfl) (by exact e2 rfl) Sl.elem) inM_nil te0 ?_;refine a_v 15 rfl [] (p_bin (by exact .ifn rfl rfl) (by exact e2 rfl) (by exact e2 rfl) (fun _ => r_eql _ _ _ _)) inM_nil te0 ?_;refine a_v 16 rfl [] (p_org (by exact .yes rfl rfl) (by rfl) (by rfl)) inM_nil te0 ?_
    refine a_v 17 rfl [] (p_and (by rfl) (by rfl)) inM_nil te0 ?_;refine a_v 18 rfl [] (p_assign .no (by exact e1 rfl)) inM_nil te0 ?_;refine a_end ?_;refine x_bn ?_;refine x_next<|c_region ?_;refine lm ?_;refine ladd ?_;refine la ?_;refine l_end ?_;exact x_round (j + 1) (by omega) (by first | omega | (dsimp only; omega)) rfl (sub_cons rfl (sub_cons rfl (sub_cons rfl (sub_cons rfl (sub_eq rfl (by first | rfl | (unfold BS.minTo; rfl) | (rw [BS.minTo_succ (by rw [List.length_map]; omega), svl_getD]; first | rfl | (congr 3; rw [decide_eq_decide]; omega))) (sub_int rfl (by first | rfl | omega | (simp; done)) (sub_nil _))))))) (rfl) (rfl)
   ·have h9' := h9;(try simp only [bps] at h9);refine c_exit ?_;refine x_te ?_;refine x_te ?_;refine x_be ?_;refine x_next<|c_seq ?_;obtain rfl : j = l.length := by omega
    have hha : BS.minAll (svs l) (l.getD i zS).l = BS.minTo (svs l) (l.getD i zS).l l.length := by unfold BS.minAll; rw [List.length_map]
    refine c_region ?_;refine lm ?_;refine l_end<|x_next ?_;refine c_if (by rfl) (fun h22 => ?_) (fun h22 => ?_)
    ·have h22' := h22;(try simp only [bps] at h22);have hpt : BS.minAll (svs l) (l.getD i zS).l = true := by rw [hha]; exact h22'
     refine c_draw [(8, m4, .cells ([.slice A1 L1.length c1, .int .i64 0]).toArray 61 (0, 0))] Hz ?_;refine a_v 0 rfl [] (p_field .no (by exact e1 rfl)) (inM_at 0 inM_nil) te0 ?_;refine a_l 1 rfl 0 (p_load 0 .no (by exact e1 rfl)) (inM_at 0 inM_nil) te0 ?_;refine a_v 2 rfl [] (p_move .no (by exact e1 rfl)) (inM_at 0 inM_nil) te0 ?_;refine a_v 3 rfl [] (p_move .no (by exact e1 rfl)) (inM_at 0 inM_nil) te0 ?_;refine a_ix 4 rfl (hl.le hz1) zS i rfl .no (by exact e1 rfl) (by exact e1 rfl) (hm) (fun _ => (by omega)) (inM_at 0 inM_nil) te0 (fun p23 o24 g25 => ?_);refine a_v 5 rfl [] (p_gload 0 g25 .no (by exact e1 rfl)) (inM_at 0 inM_nil) te0 ?_;have hc36 : Ct Tryz.prog 93 [.slice A1 L1.length c1, .slice (l.getD i zS).A (l.getD i zS).l.length (l.getD i zS).c] Hz _ := rplace_ct L1 hL1 hL2 rfl (l.getD i zS).l ((gs_at hgs (i) zS (by first | omega | (simp only [decide_eq_true_eq] at hb; omega))).le hz1) rfl (by omega)
     refine a_one 6 rfl (x_call .no ?_ (fun _ => hc36) (k := fun H26 v27 le28 r29 => ?_))
     ·exact ⟨(by exact e1 rfl), (by exact e1 rfl), trivial⟩
     obtain ⟨A30, c31, M32, rfl, hf33, hg34, hm35⟩ := r29 rfl;refine a_in (inM_at 0 inM_nil) (te le28) ?_;refine a_v 7 rfl [] (p_field .no (by exact e1 rfl)) (inM_at 0 inM_nil) (te le28) ?_;refine a_one 8 rfl (x_store 0 ([.slice A30 M32.length c31]) ([.slice A30 M32.length c31, .int .i64 0]) (k := ?_));refine a_in (inM_off inM_nil) (te le28) ?_;refine a_end ?_;refine x_bn ?_;refine x_next<|c_region ?_;refine lm ?_;refine ladd ?_;refine la ?_;refine l_end ?_;exact x_round ((i + 1), H26, A30, c31, M32) (⟨by omega, (Gh.Le.trans hz1 le28), hf33, hg34, by rw [BS.pick_pos (by rw [List.length_map]; omega) (by rw [svl_getD]; exact hpt), svl_getD, ← hLs]; exact hm35⟩) (by first | omega | (dsimp only; omega)) rfl (sub_cons rfl (sub_cons rfl (sub_cons rfl (sub_int rfl (by first | rfl | omega | (simp; done)) (sub_nil _))))) (rfl) (rfl)
    ·have h22' := h22;(try simp only [bps] at h22);refine c_skip ?_;refine x_bn ?_;refine x_next ?_;have hpt : BS.minAll (svs l) (l.getD i zS).l = false := by rw [hha]; exact h22'
     refine c_region ?_;refine lm ?_;refine ladd ?_;refine la ?_;refine l_end ?_;exact x_round ((i + 1), Hz, A1, c1, L1) (⟨by omega, hz1, hL1, hL2, by rw [BS.pick_neg (by rw [List.length_map]; omega) (by rw [svl_getD]; exact hpt)]; exact hLs⟩) (by first | omega | (dsimp only; omega)) rfl (sub_cons rfl (sub_cons rfl (sub_cons rfl (sub_int rfl (by first | rfl | omega | (simp; done)) (sub_nil _))))) (rfl) (rfl)
  ·have h7' := h7;(try simp only [bps] at h7);refine c_exit ?_;refine x_te ?_;refine x_te ?_;refine x_be ?_;refine x_next<|c_seq<|c_region ?_;refine lk 0 ([.slice A1 L1.length c1, .int .i64 0]) ?_;refine lst 1 ([.slice A1 L1.length c1, .int .i64 0]) ([.slice A1 L1.length c1, .int .i64 0]) ?_;refine l_end<|x_next ?_;refine c_ret ?_;refine x_ret (vs := [.agg [.slice A1 L1.length c1, .int .i64 0].toArray]) rfl ⟨rv_cell 1 ([.slice A1 L1.length c1, .int .i64 0]), trivial⟩ ?_;obtain rfl : i = l.length := by omega
   exact ⟨A1, c1, L1, by rw [hc0]; rfl, hL1, hL2, by rw [hLs]; unfold BS.minX; rw [if_pos hc0, ← BS.pick_min hgd.set, List.length_map]⟩
theorem any_succL {F : List (List Int)} {p : List Int → Bool} {k : Nat} (hk : k < F.length) : (F.take (k + 1)).any p = ((F.take k).any p || p (F.getD k [])) := by
 rw [BS.take_succ_getD F [] hk, List.any_append]; simp
theorem rHitting_ct {H : Gh} {A : Option Addr} {c m : Nat} (l : List (Sv Int)) (hl : GRow H A c encS 1 l) (hgs : GSets H encI 1 l) (hm : m = l.length) : Ct Tryz.prog 42 [.slice A m c] H fun H' v => ∃ A1 c1 M, v = .agg [.slice A1 M.length c1, .int .i64 (BS.hitE (svs l))].toArray ∧ GRow H' A1 c1 encS 1 M ∧ GSets H' encI 1 M ∧ svs M = BS.hitX (svs l) := by
 have hbl : l.length ≤ 9223372036854775807 := Nat.le_trans hl.1 hl.2.1;refine ct_of Tryz.func42 rfl Tryz.ntmps42 rfl fun w0 hw => ?_;refine c_seq<|c_region ?_;refine lal (fun m1 hm2 => ?_);refine l_end<|x_next<|c_seq<|c_region ?_;refine lm ?_;refine lcl (rformed_cv l hl hgs hm) ?_;refine la ?_;refine l_end<|x_next<|c_seq<|c_seq<|c_region ?_;refine lm ?_;refine lneq ?_;refine l_end<|x_next ?_;refine c_if (by rfl) (fun h3 => ?_) (fun h3 => ?_)
 ·have h3' := h3;(try simp only [bps] at h3);refine c_seq<|c_region ?_;refine lm ?_;refine lbd (v := .agg [.slice none 0 0, .int .i64 (BS.famE (svs l))].toArray) [(1, .int .i64 (BS.famE (svs l)))] ?_ (fun _ => by kernel_rfl) (by simp [ev, eget, Nat.beq]);refine lst 0 ([.slice none 0 0, .int .i64 (BS.famE (svs l))]) ([.slice none 0 0, .int .i64 (BS.famE (svs l))]) ?_;refine l_end<|x_next ?_;refine c_ret ?_;refine x_tr ?_;refine x_ret (vs := [.agg [.slice none 0 0, .int .i64 (BS.famE (svs l))].toArray]) rfl ⟨rv_cell 0 ([.slice none 0 0, .int .i64 (BS.famE (svs l))]), trivial⟩ ?_;exact ⟨none, 0, [], by rw [(BS.hit_bad h3).1]; rfl, GRow.nil _ _ _, gs_nil, by rw [(BS.hit_bad h3).2]; rfl⟩
 ·have h3' := h3;(try simp only [bps] at h3);refine c_skip ?_;refine x_next<|c_seq ?_;have hc0 : BS.famE (svs l) = 0 := Decidable.not_not.1 h3;have hgd := BS.fam_good hc0;have hl80 : l.length ≤ 80 := by have e9 := hgd.len; rw [List.length_map] at e9; exact e9
  have hs64 : ∀ s ∈ l, s.l.length ≤ 64 := fun s hs => BS.set_64 (hgd.set _ (List.mem_map_of_mem hs)) (hgd.el _ (List.mem_map_of_mem hs));have hsl : ∀ s ∈ l, s.l.length ≤ 1000000 := fun s hs => Nat.le_trans (hs64 s hs) (by decide);refine c_region ?_;refine la ?_;refine l_end<|x_next<|c_seq<|c_seq<|c_region ?_;refine la ?_;refine l_end<|x_next<|c_block ?_;refine k_nilrow 3 1 encI ?_;refine c_loop (ι := Nat × Option Addr × Nat) (fun ⟨i, A1, c1⟩ => [(0, true, .slice A m c), (2, true, .pointer (some ⟨m1, 0, none⟩)), (4, true, .slice A1 (BS.univTo (svs l) i).length c1), (5, true, .int .i64 (((i : Nat) : Int) + 1))]) (fun ⟨i, A1, c1⟩ => [(m1, .cells ([.slice none 0 0, .int .i64 0]).toArray 61 (0, 0))]) (fun ⟨i, A1, c1⟩ => [LR A1 (BS.univTo (svs l) i).length c1 3 1 encI (BS.univTo (svs l) i)]) (fun _ => H) (fun ⟨i, A1, c1⟩ => i ≤ 64) (fun ⟨i, A1, c1⟩ => 64 - i) (0, none, 0) (Nat.zero_le _) rfl (sub_cons rfl (sub_cons rfl (sub_eq rfl (by first | rfl | (rw [BS.univ_neg hpt])) (sub_int rfl (by first | rfl | omega | (push_cast; rfl)) (sub_nil _))))) (rfl) (rfl) ?_
  rintro ⟨i, A1, c1⟩ hi5
  (try dsimp only);replace hi5 : i ≤ 64 := hi5;have hul : (BS.univTo (svs l) i).length ≤ i := BS.univ_length _ _;refine c_seq<|c_seq<|c_region ?_;refine lm ?_;refine lleq ?_;refine l_end<|x_next ?_;refine c_if (by rfl) (fun h6 => ?_) (fun h6 => ?_)
  ·have h6' := h6;(try simp only [bps] at h6);refine c_skip ?_;refine x_next<|c_seq<|c_block<|c_seq<|c_region ?_;refine la ?_;refine l_end<|x_next<|c_seq<|c_seq<|c_region ?_;refine la ?_;refine l_end<|x_next<|c_block ?_;refine c_loop (ι := Nat) (fun q => [(0, true, .slice A m c), (2, true, .pointer (some ⟨m1, 0, none⟩)), (4, true, .slice A1 (BS.univTo (svs l) i).length c1), (5, true, .int .i64 (((i : Nat) : Int) + 1)), (6, true, .bool (((svs l).take q).any (fun s => decide ((((i : Nat) : Int) + 1) ∈ s)))), (7, true, .int .i64 ((q : Nat) : Int))]) (fun q => [(m1, .cells ([.slice none 0 0, .int .i64 0]).toArray 61 (0, 0))]) (fun q => [LR A1 (BS.univTo (svs l) i).length c1 3 1 encI (BS.univTo (svs l) i)]) (fun _ => H) (fun q => q ≤ l.length) (fun q => l.length - q) 0 (Nat.zero_le _) rfl (sub_cons rfl (sub_cons rfl (sub_cons rfl (sub_cons rfl (sub_eq rfl (by first | rfl | (rw [any_succL (by rw [List.length_map]; omega), svl_getD])) sA))))) (rfl) (rfl) ?_
   rintro q hi7
   (try dsimp only);replace hi7 : q ≤ l.length := hi7;refine c_seq<|c_seq<|c_region ?_;refine lm ?_;refine lm ?_;refine llen ?_;refine llss ?_;refine l_end<|x_next ?_;refine c_if (by rfl) (fun h8 => ?_) (fun h8 => ?_)
   ·have h8' := h8;(try simp only [bps] at h8);refine c_skip ?_;refine x_next<|c_seq<|c_block<|c_region ?_;refine lm ?_;refine lm ?_;refine l_v (p_move (by exact .not rfl rfl) (by exact e1 rfl)) ?_;refine l_v (p_move (by exact .not rfl rfl) (by exact e1 rfl)) ?_;refine l_ixg hl zS q rfl (by exact .not rfl rfl) (by exact e2 rfl) (by exact e2 rfl) (hm) (fun hb => (by simp only [bps] at hb; omega)) (fun p9 o10 g11 => ?_);refine l_v (p_gload 0 g11 (by exact .not rfl rfl) (by exact e2 rfl)) ?_;refine l_v (p_move (by exact .not rfl rfl) (by exact e1 rfl)) ?_;refine l_x (x_calle (vs := [.slice (l.getD q zS).A (l.getD q zS).l.length (l.getD q zS).c, .int .i64 (((i : Nat) : Int) + 1)]) (by exact .not rfl rfl) ⟨(by exact e2 rfl), (by exact e2 rfl), trivial⟩ (fun hb => rhas_cv (l.getD q zS).l (gs_at hgs (q) zS (by first | omega | (simp only [decide_eq_true_eq] at hb; omega))) rfl (((i : Nat) : Int) + 1)) (k := ?_))
    refine l_v (p_or (by rfl) (by rfl)) ?_;refine la ?_;refine l_end ?_;refine x_bn ?_;refine x_next<|c_region ?_;refine lm ?_;refine ladd ?_;refine la ?_;refine l_end ?_;exact x_round (q + 1) (by omega) (by first | omega | (dsimp only; omega)) rfl (sub_cons rfl (sub_cons rfl (sub_cons rfl (sub_cons rfl (sub_eq rfl (by first | rfl | (rw [any_succL (by rw [List.length_map]; omega), svl_getD])) (sub_int rfl (by first | rfl | omega | (simp; done)) (sub_nil _))))))) (rfl) (rfl)
   ·have h8' := h8;(try simp only [bps] at h8);refine c_exit ?_;refine x_te ?_;refine x_te ?_;refine x_be ?_;refine x_next<|c_seq ?_;obtain rfl : q = l.length := by omega
    have hta : (svs l).take l.length = svs l := List.take_of_length_le (by rw [List.length_map]; exact Nat.le_refl _);refine c_region ?_;refine lm ?_;refine l_end<|x_next ?_;refine c_if (by rfl) (fun h12 => ?_) (fun h12 => ?_)
    ·have h12' := h12;(try simp only [bps] at h12);have hpt : ((svs l).any fun s => decide ((((i : Nat) : Int) + 1) ∈ s)) = true := by have h9 := h12'; rw [hta] at h9; exact h9
     refine c_region ?_;refine lm ?_;refine lm ?_;refine l_x (x_bs [(0, .int .i64 (((i : Nat) : Int) + 1))] ([.int .i64 (((i : Nat) : Int) + 1)]) (by kernel_rfl) (by simp [ev, eget, Nat.beq]) (k' := fun m13 hm14 => ?_));refine l_x (x_app1 0 0 [(((i : Nat) : Int) + 1)] (fun A15 c16 => ?_) (hb := by first | omega | (simp only [List.length_nil, List.length_append, List.length_take, List.length_drop, List.length_cons] at *; omega)) (hb' := by first | omega | (simp only [List.length_nil, List.length_append, List.length_take, List.length_drop, List.length_cons] at *; omega)));refine la ?_;refine l_end ?_;refine x_bn ?_;refine x_next<|c_region ?_;refine lm ?_;refine ladd ?_;refine la ?_;refine l_end ?_;refine k_forget (.cons _ (.cons_cons _ .slnil)) (.refl _) ?_;exact x_round ((i + 1), A15, c16) (by omega) (by first | omega | (dsimp only; omega)) rfl (sub_cons rfl (sub_cons rfl (sub_eq rfl (by first | rfl | (rw [BS.univ_pos hpt])) (sub_int rfl (by first | rfl | omega | (push_cast; rfl)) (sub_nil _))))) (rfl) (by dsimp only; rw [BS.univ_pos hpt]; first | done | rfl)
    ·have h12' := h12;(try simp only [bps] at h12);refine c_skip ?_;refine x_bn ?_;refine x_next ?_;have hpt : ((svs l).any fun s => decide ((((i : Nat) : Int) + 1) ∈ s)) = false := by have h9 := h12'; rw [hta] at h9; exact h9
     refine c_region ?_;refine lm ?_;refine ladd ?_;refine la ?_;refine l_end ?_;exact x_round ((i + 1), A1, c1) (by omega) (by first | omega | (dsimp only; omega)) rfl (sub_cons rfl (sub_cons rfl (sub_eq rfl (by first | rfl | (rw [BS.univ_neg hpt])) (sub_int rfl (by first | rfl | omega | (push_cast; rfl)) (sub_nil _))))) (rfl) (by dsimp only; rw [BS.univ_neg hpt]; first | done | rfl)
  ·have h6' := h6;(try simp only [bps] at h6);refine c_exit ?_;refine x_te ?_;refine x_te ?_;refine x_be ?_;refine x_next<|c_seq<|c_seq ?_;have hi64 : i = 64 := by omega
   have hum : BS.univTo (svs l) i = BS.membersL (svs l) := by rw [hi64]; exact BS.univ_is hgd
   refine c_region ?_;refine lm ?_;refine llen ?_;refine lgtr ?_;refine l_end<|x_next ?_;refine c_if (by rfl) (fun h17 => ?_) (fun h17 => ?_)
   ·have h17' := h17;(try simp only [bps] at h17);refine c_seq<|c_region ?_;refine lbd (v := .agg [.slice none 0 0, .int .i64 2].toArray) [(1, .int .i64 2)] ?_ (fun _ => by kernel_rfl) (by simp [ev, eget, Nat.beq]);refine lst 0 ([.slice none 0 0, .int .i64 2]) ([.slice none 0 0, .int .i64 2]) ?_;refine l_end<|x_next ?_;refine c_ret ?_;refine x_tr ?_;refine x_ret (vs := [.agg [.slice none 0 0, .int .i64 2].toArray]) rfl ⟨rv_cell 0 ([.slice none 0 0, .int .i64 2]), trivial⟩ ?_;exact ⟨none, 0, [], by rw [(BS.hit_many hc0 (by rw [← hum]; omega)).1]; rfl, GRow.nil _ _ _, gs_nil, by rw [(BS.hit_many hc0 (by rw [← hum]; omega)).2]; rfl⟩
   ·have h17' := h17;(try simp only [bps] at h17);refine c_skip ?_;refine x_next<|c_seq ?_;refine k_frz 0 (fun H18 le19 gr20 => ?_);refine c_region ?_;refine lm ?_;refine lm ?_;have hc31 : Ct Tryz.prog 103 [.slice A1 (BS.univTo (svs l) i).length c1, .slice A m c] H18 _ := rhitting_ct l (hl.le le19) (gs_le hgs le19) hm (BS.univTo (svs l) i) gr20 rfl (by omega);refine l_x (x_call .no ?_ (fun _ => hc31) (k := fun H21 v22 le23 r24 => ?_))
    ·exact ⟨(by exact e1 rfl), (by exact e1 rfl), trivial⟩
    obtain ⟨A25, c26, M27, rfl, hf28, hg29, hm30⟩ := r24 rfl;refine lbd (v := .agg [.slice A25 M27.length c26, .int .i64 0].toArray) [(0, .slice A25 M27.length c26)] ?_ (fun _ => by kernel_rfl) (by simp [ev, eget, Nat.beq]);refine lst 0 ([.slice A25 M27.length c26, .int .i64 0]) ([.slice A25 M27.length c26, .int .i64 0]) ?_;refine l_end<|x_next ?_;refine c_ret ?_;refine x_ret (vs := [.agg [.slice A25 M27.length c26, .int .i64 0].toArray]) rfl ⟨rv_cell 0 ([.slice A25 M27.length c26, .int .i64 0]), trivial⟩ ?_;exact ⟨_, _, M27, by rw [(BS.hit_ok hc0 (by rw [← hum]; omega)).1]; rfl, hf28, hg29, by rw [(BS.hit_ok hc0 (by rw [← hum]; omega)).2, hm30, hum, BS.subs_hit_is hc0]⟩
end Go.Proofs.YtoakoffdjeleoaaGreat
end
section
set_option maxRecDepth 4000
set_option maxHeartbeats 4000000
namespace Go.Proofs.YtoakoffdjeleoaaGreat
open Go.RowKit Go.Shelf
attribute [local irreducible] BS.narrow BS.lookL BS.findE BS.findR BS.volMax BS.parts BS.checkP BS.solE BS.solR BS.solveR BS.furtherR BS.onlyP BS.decideP BS.formedB BS.checkB BS.subsetsL BS.onlyB sortI BS.minimalF BS.lightL decB witR leaP BS.growN BS.openB BS.openN BS.famE BS.membersL BS.hitE BS.minX BS.hitX conR conL jugR BS.hitL BS.briefB BS.place BS.ahead BS.partB BS.hitTo BS.subB BS.minTo BS.pickTo BS.hitAll BS.minAll
theorem creditFamilies_law {H : Gh} {A : Option Addr} {c m : Nat} (l : List (Sv Int)) (hl : GRow H A c encS 1 l) (hgs : GSets H encI 1 l) (hm : m = l.length) (hmx : l.length ≤ 140737488355328) (hsx : ∀ s ∈ l, s.l.length ≤ 140737488355328) {B : Option Addr} {d k : Nat} (xs : List Int) (hx : GRow H B d encI 1 xs) (hk : k = xs.length) : Cv Tryz.prog 7 [.slice A m c, .slice B k d] H fun u_ => u_ = .bool true := by
 have hbl : l.length ≤ 9223372036854775807 := Nat.le_trans hl.1 hl.2.1;have hbx : xs.length ≤ 9223372036854775807 := Nat.le_trans hx.1 hx.2.1;refine cv_of Tryz.func7 rfl Tryz.ntmps7 rfl fun w0 hw => ?_;refine c_seq<|c_region ?_;refine la ?_;refine l_end<|x_next<|c_seq<|c_seq<|c_region ?_;refine lm ?_;refine lcl (brief_cv l hl hgs hm hmx hsx) ?_;refine lnot ?_;refine lm ?_;refine l_v (p_move (by exact .not rfl rfl) (by exact e1 rfl)) ?_;refine l_v (p_len (by exact .not rfl rfl) (by exact e2 rfl) Sl.elem) ?_;refine l_v (p_bin (by exact .not rfl rfl) (by exact e2 rfl) (by exact e1 rfl) (fun _ => r_gtr _ _ _ _)) ?_;refine l_v (p_or (by rfl) (by rfl)) ?_;refine l_end<|x_next ?_;refine c_if (by rfl) (fun h1 => ?_) (fun h1 => ?_)
 ·have h1' := h1;(try simp only [bps] at h1);refine c_seq<|c_region ?_;refine lcl (sanity_cv) ?_;refine la ?_;refine l_end<|x_next ?_;refine c_ret ?_;refine x_tr ?_;refine x_ret (vs := [.bool true]) rfl ⟨rfl, trivial⟩ ?_;rfl
 ·have h1' := h1;(try simp only [bps] at h1);refine c_skip ?_;refine x_next<|c_seq<|c_region ?_;refine lm ?_;have hc12 : Ct Tryz.prog 39 [.slice A m c] H _ := minimal_exp l hl hgs hm;refine l_x (x_call .no ?_ (fun _ => hc12) (k := fun H2 v3 le4 r5 => ?_))
  ·exact ⟨(by exact e1 rfl), trivial⟩
  obtain ⟨A6, c7, M8, rfl, hf9, hg10, hm11⟩ := r5 rfl;refine lm ?_;refine lext ?_;refine lext ?_;refine la ?_;refine la ?_;refine l_end<|x_next<|c_seq<|c_region ?_;refine lm ?_;have hc23 : Ct Tryz.prog 40 [.slice A m c] H2 _ := rminimal_ct l (hl.le le4) (gs_le hgs le4) hm;refine l_x (x_call .no ?_ (fun _ => hc23) (k := fun H13 v14 le15 r16 => ?_))
  ·exact ⟨(by exact e1 rfl), trivial⟩
  obtain ⟨A17, c18, M19, rfl, hf20, hg21, hm22⟩ := r16 rfl;refine lal (fun m24 hm25 => ?_);refine lst 0 ([.slice A17 M19.length c18, .int .i64 (BS.famE (svs l))]) ([.slice A17 M19.length c18, .int .i64 (BS.famE (svs l))]) ?_;refine l_end<|x_next<|c_seq<|c_region ?_;refine lm ?_;have hc36 : Ct Tryz.prog 41 [.slice A m c] H13 _ := hitting_exp l (hl.le (Gh.Le.trans le4 le15)) (gs_le hgs (Gh.Le.trans le4 le15)) hm;refine l_x (x_call .no ?_ (fun _ => hc36) (k := fun H26 v27 le28 r29 => ?_))
  ·exact ⟨(by exact e1 rfl), trivial⟩
  obtain ⟨A30, c31, M32, rfl, hf33, hg34, hm35⟩ := r29 rfl;refine lm ?_;refine lext ?_;refine lext ?_;refine la ?_;refine la ?_;refine l_end<|x_next<|c_seq<|c_region ?_;refine lm ?_;have hc47 : Ct Tryz.prog 42 [.slice A m c] H26 _ := rHitting_ct l (hl.le (Gh.Le.trans (Gh.Le.trans le4 le15) le28)) (gs_le hgs (Gh.Le.trans (Gh.Le.trans le4 le15) le28)) hm;refine l_x (x_call .no ?_ (fun _ => hc47) (k := fun H37 v38 le39 r40 => ?_))
  ·exact ⟨(by exact e1 rfl), trivial⟩
  obtain ⟨A41, c42, M43, rfl, hf44, hg45, hm46⟩ := r40 rfl;refine lal (fun m48 hm49 => ?_);refine lst 0 ([.slice A41 M43.length c42, .int .i64 (BS.hitE (svs l))]) ([.slice A41 M43.length c42, .int .i64 (BS.hitE (svs l))]) ?_;refine l_end<|x_next<|c_seq<|c_region ?_;refine lcl (sanity_cv) ?_;refine lm ?_;refine l_v (p_move (by exact .yes rfl rfl) (by exact e1 rfl)) ?_;refine l_v (p_field (by exact .yes rfl rfl) (by exact e1 rfl)) ?_;refine l_v (p_load 1 (by exact .yes rfl rfl) (by exact e1 rfl)) ?_;refine l_v (p_bin (by exact .yes rfl rfl) (by exact e1 rfl) (by exact e1 rfl) (fun _ => r_eql _ _ _ _)) ?_;refine l_v (p_and (by rfl) (by rfl)) ?_;refine lm ?_;refine l_v (p_move (by exact .yes rfl rfl) (by exact e1 rfl)) ?_;refine l_v (p_field (by exact .yes rfl rfl) (by exact e1 rfl)) ?_;refine l_v (p_load 1 (by exact .yes rfl rfl) (by exact e2 rfl)) ?_;refine l_x (x_calle (vs := [.slice A6 M8.length c7, .slice A17 M19.length c18]) (by exact .yes rfl rfl) ⟨(by exact e2 rfl), (by exact e2 rfl), trivial⟩ (fun hb => sameSets_cv M8 M19 (hf9.le (Gh.Le.trans (Gh.Le.trans le15 le28) le39)) (gs_le hg10 (Gh.Le.trans (Gh.Le.trans le15 le28) le39)) (hf20.le (Gh.Le.trans le28 le39)) (gs_le hg21 (Gh.Le.trans le28 le39)) rfl rfl) (k := ?_))
  refine l_v (p_and (by rfl) (by rfl)) ?_;refine lm ?_;refine l_v (p_move (by exact .yes rfl rfl) (by exact e1 rfl)) ?_;refine l_v (p_field (by exact .yes rfl rfl) (by exact e1 rfl)) ?_;refine l_v (p_load 0 (by exact .yes rfl rfl) (by exact e2 rfl)) ?_;refine l_v (p_bin (by exact .yes rfl rfl) (by exact e2 rfl) (by exact e2 rfl) (fun _ => r_eql _ _ _ _)) ?_;refine l_v (p_and (by rfl) (by rfl)) ?_;refine lm ?_;refine l_v (p_move (by exact .yes rfl rfl) (by exact e1 rfl)) ?_;refine l_v (p_field (by exact .yes rfl rfl) (by exact e1 rfl)) ?_;refine l_v (p_load 0 (by exact .yes rfl rfl) (by exact e2 rfl)) ?_;refine l_x (x_calle (vs := [.slice A30 M32.length c31, .slice A41 M43.length c42]) (by exact .yes rfl rfl) ⟨(by exact e2 rfl), (by exact e2 rfl), trivial⟩ (fun hb => sameSets_cv M32 M43 (hf33.le le39) (gs_le hg34 le39) hf44 hg45 rfl rfl) (k := ?_));refine l_v (p_and (by rfl) (by rfl)) ?_;refine lm ?_
  refine l_v (p_move (by exact .yes rfl rfl) (by exact e1 rfl)) ?_;refine l_v (p_move (by exact .yes rfl rfl) (by exact e1 rfl)) ?_;refine l_x (x_calle (vs := [.slice B k d, .slice A m c]) (by exact .yes rfl rfl) ⟨(by exact e2 rfl), (by exact e2 rfl), trivial⟩ (fun hb => hits_cv l (hl.le (Gh.Le.trans (Gh.Le.trans (Gh.Le.trans le4 le15) le28) le39)) (gs_le hgs (Gh.Le.trans (Gh.Le.trans (Gh.Le.trans le4 le15) le28) le39)) hm xs (hx.le (Gh.Le.trans (Gh.Le.trans (Gh.Le.trans le4 le15) le28) le39)) hk) (k := ?_));refine l_v (p_move (by exact .yes rfl rfl) (by exact e1 rfl)) ?_;refine l_v (p_move (by exact .yes rfl rfl) (by exact e1 rfl)) ?_;refine l_x (x_calle (vs := [.slice B k d, .slice A m c]) (by exact .yes rfl rfl) ⟨(by exact e2 rfl), (by exact e2 rfl), trivial⟩ (fun hb => rHits_cv xs (hx.le (Gh.Le.trans (Gh.Le.trans (Gh.Le.trans le4 le15) le28) le39)) hk l (hl.le (Gh.Le.trans (Gh.Le.trans (Gh.Le.trans le4 le15) le28) le39)) (gs_le hgs (Gh.Le.trans (Gh.Le.trans (Gh.Le.trans le4 le15) le28) le39)) hm) (k := ?_))
  refine l_v (p_bool (beql4 _ _) (by exact .yes rfl rfl) (by exact e2 rfl) (by exact e2 rfl)) ?_;refine l_v (p_and (by rfl) (by rfl)) ?_;refine la ?_;refine l_end<|x_next ?_;refine c_ret ?_;refine x_ret (vs := [.bool (((((true && decide ((BS.famE (svs l)) = (BS.famE (svs l)))) && decide (svs M8 = svs M19)) && decide ((BS.hitE (svs l)) = (BS.hitE (svs l)))) && decide (svs M32 = svs M43)) && ((BS.hitsB xs (svs l)) == (BS.hitsB xs (svs l))))]) rfl ⟨rfl, trivial⟩ ?_;show Value.bool _ = .bool true;rw [hm11, hm22, hm35, hm46];simp
end Go.Proofs.YtoakoffdjeleoaaGreat
end
section
namespace Go.Proofs.YtoakoffdjeleoaaGreat
open Go.ChangeShapes Go.WideShapes Go.ChangeAt Go.RowKit
def Gw (w : World) : Gh := fun b => w.heap[b]?
theorem Gw.in_ (w : World) : (Gw w).In w := fun b o h => ⟨o, h, .inl rfl⟩
theorem own0 : ownKnob Tryz.prog.godebug = none := by kernel_rfl
theorem laidOut0 : laidOutB Tryz.prog = true := by kernel_rfl
theorem cell_heap {w : World} {b j : Nat} {u : Value} (h : w.cell? ⟨b, j, none⟩ = some u) : ∃ arr T fr, w.heap[b]? = some (.cells arr T fr) ∧ arr[j]? = some u := by
  unfold World.cell? at h
  simp only at h
  split at h
  · rename_i cs t fr e
    exact ⟨cs, t, fr, e, h⟩
  · cases h
section
variable {H : Type} {enc : TypeId × Value → H} {W : World}
abbrev Rd (enc : TypeId × Value → H) (W : World) (n t : Nat) (cs : List Value) (x : DataW H × List MemPlace) : Prop := DataW.trod enc Tryz.prog W 0 (fun _ => true) true n t cs = some x
def Wt (t : Nat) (D : DataW H) : Prop := ∀ n ∈ D.weights Tryz.prog t, n ≤ reachBytes
theorem weightsAll_in {e : TypeId} : ∀ {l : List (DataW H)} {d : DataW H}, d ∈ l → ∀ n ∈ d.weights Tryz.prog e, n ∈ DataW.weightsAll Tryz.prog e l
  | x :: l, d, h, n, hn => by
    unfold DataW.weightsAll
    rcases List.mem_cons.1 h with rfl | h
    · exact List.mem_append_left _ hn
    · exact List.mem_append_right _ (weightsAll_in h n hn)
theorem wt_of {ts : List TypeId} {ds : List (DataW H)} (h : (DataW.weightsEach Tryz.prog ts ds).all (· ≤ reachBytes) = true) {j : Nat} {t : TypeId} {d : DataW H} (ht : ts[j]? = some t) (hd : ds[j]? = some d) : Wt t d := fun n hn => by
  have := List.all_eq_true.1 h n (DataW.weights_mem_each ht hd n hn)
  simpa using this
theorem open_list {α : Type} [Inhabited α] {t e k n : Nat} {cs : List Value} {D : DataW H} {pl : List MemPlace} {en : α → List Value} {q : α → Prop} (ht : Tryz.prog.underlying t = some (.slice e)) (hk : Tryz.prog.cellsOf e = k) (hk0 : 0 < k) (hel : ∀ x, (en x).length = k)
    (one : ∀ m cs' y, cs'.length = k → Rd enc W m e cs' y → Wt e y.1 → ∃ x : α, cs' = en x ∧ q x) (h : Rd enc W n t cs (D, pl)) (hw : Wt t D) :
    ∃ (A : Option Addr) (c : Nat) (L : List α), cs = [.slice A L.length c] ∧ GRow (Gw W) A c en k L ∧ (∀ x ∈ L, q x) ∧ L.length * Tryz.prog.bytesOf e ≤ reachBytes := by
  rcases Go.Deep.open_slice ht h with ⟨rfl, hx⟩ | ⟨a, len, cap, m, n', D', Pl, rfl, _, hl, hm, hmm, hx, hi⟩
  · exact ⟨none, 0, [], rfl, GRow.nil _ _ _, by simp, by simp⟩
  simp only [if_true] at hmm
  subst hmm
  injection hx with hx _
  subst hx
  have hwe : ∀ i, i < len → Wt e (D' i) := fun i h1 b hb => hw b (by
    simp only [DataW.weights, ht]
    refine List.mem_cons_of_mem _ (List.mem_append_left _ (weightsAll_in (List.mem_map.2 ⟨i, List.mem_range.2 h1, rfl⟩) b hb)))
  obtain ⟨f, hf⟩ := Go.Deep.choose_lt (n := len) (p := fun i x => W.cells? 0 (a.add (i * k)) k = some (en x) ∧ q x) (fun i h1 => by
    obtain ⟨cs', c1, c2⟩ := hi i (by omega)
    rw [hk] at c1
    obtain ⟨_, c3, _⟩ := World.cells?_some c1
    obtain ⟨x, rfl, hq⟩ := one _ _ _ c3 c2 (hwe i h1)
    exact ⟨x, c1, hq⟩)
  have hlen : ((List.range len).map f).length = len := by simp
  refine ⟨some a, m, (List.range len).map f, by rw [hlen], ⟨by rw [hlen]; exact hl, hm, fun hp => ?_⟩, fun x hx => ?_, ?_⟩
  · rw [hlen] at hp
    obtain ⟨b, off, spot⟩ := a
    have cellAt : ∀ i j u, i < len → (en (f i))[j]? = some u → W.cell? ((⟨b, off, spot⟩ : Addr).add (i * k + j)) = some u := fun i j u h1 h2 => by
      obtain ⟨_, c2, c3⟩ := World.cells?_some (hf i h1).1
      have hj := (List.getElem?_eq_some_iff.1 h2).1
      have := c3 j (by rw [hel] at hj; exact hj)
      rw [h2, Go.Deep.add_add] at this
      exact this
    have h00 : (0 : Nat) < (en (f 0)).length := by rw [hel]; exact hk0
    have c0 := cellAt 0 0 ((en (f 0))[0]) hp (List.getElem?_eq_getElem h00)
    have hs : spot = none := by simpa [Addr.add] using World.cell?_spot c0
    subst hs
    rw [Nat.zero_mul, Nat.zero_add, add_at] at c0
    obtain ⟨arr, T, fr, h1, h2⟩ := cell_heap c0
    refine ⟨b, off, arr, T, fr, rfl, h1, fun i x hx j u hu => ?_⟩
    obtain ⟨h3, h4⟩ := List.getElem?_eq_some_iff.1 hx
    rw [hlen] at h3
    have e : x = f i := by rw [← h4]; simp
    subst e
    have c1 := cellAt i j u h3 hu
    rw [add_at] at c1
    obtain ⟨arr', T', fr', h5, h6⟩ := cell_heap c1
    rw [h1] at h5
    have h7 : arr = arr' := by
      have := Option.some.inj h5
      exact (Obj.cells.inj this).1
    subst h7
    rw [← Nat.add_assoc] at h6
    exact h6
  · obtain ⟨i, h1, rfl⟩ := List.mem_map.1 hx
    exact (hf i (List.mem_range.1 h1)).2
  · rw [hlen]
    have := hw ((((List.range len).map D').length + ((List.range (m - len)).map fun j => D' (len + j)).length) * Tryz.prog.bytesOf e) (by simp only [DataW.weights, ht]; exact List.mem_cons_self)
    simp only [List.length_map, List.length_range] at this
    have h9 : len ≤ len + (m - len) := by omega
    generalize Tryz.prog.bytesOf e = B at this ⊢
    generalize reachBytes = R0 at this ⊢
    exact Nat.le_trans (Nat.mul_le_mul_right B h9) this
theorem one_int {m : Nat} {cs : List Value} {y : DataW H × List MemPlace} (h : Rd enc W m 3 cs y) : ∃ x : Int, cs = encI x ∧ (-9223372036854775808 ≤ x ∧ x ≤ 9223372036854775807) := by
  obtain ⟨x, rfl, _, hw⟩ := DataW.trod_int Tryz.underlying3 h
  exact ⟨x, rfl, bounds_i64 hw⟩
theorem cells3 : Tryz.prog.cellsOf 3 = 1 := by kernel_rfl
theorem cells51 : Tryz.prog.cellsOf 51 = 1 := by kernel_rfl
theorem bytes3 : Tryz.prog.bytesOf 3 = 8 := by kernel_rfl
theorem bytes51 : Tryz.prog.bytesOf 51 = 24 := by kernel_rfl
theorem reach0 : reachBytes = 140737488351232 := rfl
def In64 (x : Int) : Prop := -9223372036854775808 ≤ x ∧ x ≤ 9223372036854775807
theorem open_nums {n : Nat} {cs : List Value} {D : DataW H} {pl : List MemPlace} (h : Rd enc W n 51 cs (D, pl)) (hw : Wt 51 D) : ∃ s : Sv Int, cs = encS s ∧ GRow (Gw W) s.A s.c encI 1 s.l ∧ (∀ x ∈ s.l, In64 x) ∧ s.l.length ≤ 140737488355328 := by
  obtain ⟨A, c, L, h1, h2, h3, h4⟩ := open_list (en := encI) (q := In64) Tryz.underlying51 cells3 (by decide) (fun _ => rfl) (fun m cs' y _ hy _ => one_int hy) h hw
  rw [bytes3, reach0] at h4
  exact ⟨⟨A, c, L⟩, h1, h2, h3, by show L.length ≤ _; omega⟩
theorem open_sets {n : Nat} {cs : List Value} {D : DataW H} {pl : List MemPlace} (h : Rd enc W n 53 cs (D, pl)) (hw : Wt 53 D) : ∃ (A : Option Addr) (c : Nat) (L : List (Sv Int)), cs = [.slice A L.length c] ∧ GRow (Gw W) A c encS 1 L ∧ GSets (Gw W) encI 1 L ∧ L.length ≤ 140737488355328 ∧ ∀ s ∈ L, s.l.length ≤ 140737488355328 := by
  obtain ⟨A, c, L, h1, h2, h3, h4⟩ := open_list (en := encS (α := Int)) (q := fun s => GRow (Gw W) s.A s.c encI 1 s.l ∧ s.l.length ≤ 140737488355328) Tryz.underlying53 cells51 (by decide) (fun _ => rfl) (fun m cs' y _ hy hwy => by
    obtain ⟨s, a, b, _, d⟩ := open_nums (D := y.1) (pl := y.2) hy hwy
    exact ⟨s, a, b, d⟩) h hw
  rw [bytes51, reach0] at h4
  exact ⟨A, c, L, h1, h2, fun s hs => (h3 s hs).1, by omega, fun s hs => (h3 s hs).2⟩
end
end Go.Proofs.YtoakoffdjeleoaaGreat
end
